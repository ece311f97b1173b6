import PyProof.Rows.All
import Wide.All
import OpenK.AllK
import Wide.FinOn
import PyProof.ExcInit
import PyProof.InstStoreFacts
import PyProof.ExcBaseAll.Exception
import KE.KSuper
import PyProof.WalksPairs
import Lean
import PySem.Challenge.RW_rg0113_01
open PySem PySem.W PyProof.Rows PySem.Calls PySem.Spec
set_option Elab.async false
set_option maxRecDepth 100000
set_option maxHeartbeats 8000000
set_option linter.all false
namespace Mine
namespace L
noncomputable def runT (ok : Nat → Option Value → Thread → Bool) (st : SharedT → Thread → Option (SharedT × Thread)) (m : Nat) (ann : Option Value) : Nat → SharedT → Thread → Option SharedT
  | 0, _, _ => none
  | n + 1, s, t => match through t with
    | true => some s
    | false => match ok m ann t with
      | false => none
      | true => match st s t with
        | some (s', t') => runT ok st m ann n s' t'
        | none => none
theorem runT_of {tb : String → Option Builtin} {p : Program} {w : World} {m : Nat} {ann : Option Value} : ∀ {n : Nat} {s r : SharedT} {t : Thread}, runT stepOk (stepT (denote tb) p w) m ann n s t = some r → topRun tb p w m ann n s.abs t = some r.abs
  | 0, _, _, _, h => by cases h
  | n + 1, s, r, t, h => by
    unfold runT at h
    unfold topRun
    cases he : through t with
    | true => rw [he] at h; cases h; rfl
    | false =>
      rw [he] at h
      cases hk : stepOk m ann t with
      | false => rw [hk] at h; cases h
      | true =>
        rw [hk] at h
        cases hs : stepT (denote tb) p w s t with
        | none => rw [hs] at h; cases h
        | some x => obtain ⟨s₂, t₂⟩ := x; rw [hs] at h; rw [stepT_spec hs]; exact runT_of h
noncomputable def tr (l : List Obj) : Nat → Nat → Nat → BT
  | 0, _, _ => .nil
  | k + 1, a, b => match l[b]? with
    | some o => .node o (tr l k (2 * a) (a + b)) (tr l k (2 * a) (2 * a + b))
    | none => .nil
theorem left_tree {p q p' q' : Program} {X X' : Shared → Bool} {α : Type} {Yf : Shared → α} {Ya : World → α} {N m : Nat} {T : Params → BT} {life : Life} {ann : Option Value}
    (hp : p = p') (hq : q = q') (hx : X = X') (e : opening p = plainProg p.main.scope.names) (hN : Nat.ble 600 N = true) (f : ∀ s, fenceModules? p s = some s) (hT : ∀ w : World, absHeap (T w.params) m life = boot_heap w.params)
    (size : ∀ w : World, ((boot_heap w.params).isNs mainGlobals, (boot_heap w.params).objs.size, (boot_heap w.params).nsMap mainGlobals "__annotations__") = (true, m, ann))
    (h : ∀ w os, (runT stepOk (stepT (denote treeTable) p' w) m ann N ⟨T w.params, m, life, Array.mk [], boot_drawn, boot_toks, os⟩ (topStub p')).map (fun s => ((staticsOk (importedModules p'.main.body) (boot_heap w.params) s.abs.heap && namesBound p' s.abs.heap && gensDone s.abs && laidKept (boot_heap w.params) s.abs.heap), openSeen q' [] (importedModules p'.main.body) X' true s.abs)) = some (true, openGood q' []))
    (k : ∀ w os, (runT stepOk (stepT (denote treeTable) p' w) m ann N ⟨T w.params, m, life, Array.mk [], boot_drawn, boot_toks, os⟩ (topStub p')).map (fun s => Yf s.abs) = some (Ya w)) : LeftO p q [] X Yf Ya N true := fun w => by
  subst hp
  subst hq
  subst hx
  obtain ⟨⟨hp, gs, d, j, os⟩, e1, e2⟩ := Option.map_eq_some_iff.mp (boot_open e hN f w)
  simp only [Prod.mk.injEq] at e2
  obtain ⟨rfl, rfl, rfl, rfl⟩ := e2
  obtain ⟨z1, z2, z3⟩ : _ ∧ _ ∧ _ := by simpa only [Prod.mk.injEq] using size w
  obtain ⟨r, r1, r2⟩ := Option.map_eq_some_iff.mp (h w os)
  obtain ⟨r', k1, k2⟩ := Option.map_eq_some_iff.mp (k w os)
  cases r1.symm.trans k1
  have r3 := runT_of r1
  simp only [Prod.mk.injEq] at r2
  obtain ⟨l1, l2⟩ := r2
  unfold SharedT.abs at r3
  dsimp only at r3
  rw [hT w] at r3
  unfold openEnds
  rw [e1]
  show (topFrom treeTable p w N _).map _ = _
  unfold topFrom
  dsimp only
  rw [z1, z2, z3]
  show Option.map _ (Option.bind (topRun treeTable p w m ann N _ _) _) = _
  rw [r3]
  unfold SharedT.abs at l1 l2 k2
  show Option.map _ (match _ with | true => _ | false => _) = _
  rw [l1]
  exact congrArg some (Prod.ext l2 k2)
theorem some_body : Nat.ble 1 PySem.Challenge.pw_rg0113_01.main.body.length = true := by k_qdec
noncomputable abbrev P1 : Program := PySem.W.Fast.tw17429096402058245553
theorem pw_twin : PySem.Challenge.pw_rg0113_01 = P1 := PySem.W.Fast.te17429096402058245553
abbrev kept : List Nat := [1, 2, 4, 5, 6, 7, 8, 9, 10, 11, 12, 13, 15, 16, 17, 18, 19, 20, 21]
noncomputable abbrev Q1 : Program := view P1 kept
noncomputable abbrev T0 (P : Params) : BT := tr (boot_heap P).objs.toList 5 1 0
noncomputable abbrev X0 (q : Program) (s : Shared) : Bool := xlAt q [] s && recOk (RowW.records PySem.Challenge.rw_rg0113_01.row.toRowW) s
theorem seen_ok : ∀ w os, (runT stepOk (stepT (denote treeTable) P1 w) 11 (some (.ref 6)) 2646 ⟨T0 w.params, 11, {}, Array.mk [], boot_drawn, boot_toks, os⟩ (topStub P1)).map (fun s => ((staticsOk (importedModules P1.main.body) (boot_heap w.params) s.abs.heap && namesBound P1 s.abs.heap && gensDone s.abs && laidKept (boot_heap w.params) s.abs.heap), openSeen Q1 [] (importedModules P1.main.body) (X0 Q1) true s.abs)) = some (true, openGood Q1 []) := by
  intro w os
  rw [PySem.W.Fast.te6613529449190102663, PySem.W.Fast.te10156331382660048174, PySem.W.Fast.te11892475500146522536, PySem.W.Fast.te14364793385576792824, PySem.W.Fast.te5923862056798008813, PySem.W.Fast.te4187177175401517315]
  kernel_rfl
theorem left_here {q : Program} {α : Type} {Yf : Shared → α} {Ya : World → α} (hq : q = view PySem.Challenge.pw_rg0113_01 kept)
    (k : ∀ w os, (runT stepOk (stepT (denote treeTable) P1 w) 11 (some (.ref 6)) 2646 ⟨T0 w.params, 11, {}, Array.mk [], boot_drawn, boot_toks, os⟩ (topStub P1)).map (fun s => Yf s.abs) = some (Ya w)) :
    LeftO PySem.Challenge.rw_rg0113_01.row.prog q [] (fun s => xlAt q [] s && recOk (RowW.records PySem.Challenge.rw_rg0113_01.row.toRowW) s) Yf Ya 2646 true := by
  have hq' : q = Q1 := hq.trans (congrArg (fun p => view p kept) pw_twin)
  exact left_tree (T := T0) (m := 11) (life := {}) (ann := some (.ref 6)) (Eq.trans (b := PySem.Challenge.pw_rg0113_01) (by kernel_rfl) pw_twin) hq' (congrArg X0 hq') (by kernel_rfl) (by kernel_rfl) (fun _ => by kernel_rfl) (fun _ => by kernel_rfl) (fun _ => by kernel_rfl) seen_ok k
end L
local macro_rules | `(tactic| refine $f:ident (q := $q) $args*) => `(tactic| (refine' $f (q := $q) $args*; (case hl => (refine L.left_here (by kernel_rfl) (fun w os => ?_); rw [PySem.W.Fast.te6613529449190102663, PySem.W.Fast.te10156331382660048174, PySem.W.Fast.te11892475500146522536, PySem.W.Fast.te14364793385576792824]; kernel_rfl))))
open_top hd for PySem.Challenge.rw_rg0113_01
end Mine
namespace Mine
noncomputable abbrev PG : Program := PySem.Challenge.rw_rg0113_01.row.prog
abbrev TopH (mean : ExcName → Option Value) (mg mb : Str → Option Value) (h : Heap) : Prop := Top Mine.hd.view_39 (looseW Mine.hd.view_39 []) mean mg mb h
noncomputable def Keep (h h' : Heap) : Prop := ∀ b o, h.get? b = some o → h'.get? b = some o
theorem Keep.refl (h : Heap) : Keep h h := fun _ _ e => e
theorem Keep.trans {a b c : Heap} (x : Keep a b) (y : Keep b c) : Keep a c := fun _ _ e => y _ _ (x _ _ e)
theorem Keep.fr {h₀ h h' : Heap} {L : Addr} {m : Str → Option Value} (k : Keep h h') (F : Fr h₀ L h m) : Fr h₀ L h' m := by
  obtain ⟨oL, es, ep, hL, r⟩ := F.ns
  exact ⟨⟨oL, es, ep, k _ _ hL, r⟩, fun b o e => k _ _ (F.keep b o e), F.above⟩
theorem Keep.news {h₀ h h' : Heap} {L : Addr} {n : List (Addr × Obj)} (k : Keep h h') (N : News h₀ L h n) : News h₀ L h' n :=
  fun p hp => ⟨k _ _ (N p hp).1, (N p hp).2⟩
theorem fillK : ∀ P : Params, Mine.hd.heap_39 P = Mine.hd.heap_39 P ∧ PySem.Challenge.rw_rg0113_01 = PySem.Challenge.rw_rg0113_01 := fun _ => ⟨rfl, rfl⟩
section
variable {prog : Program} {w : World} {A₀ A : Around} {s : Shared} {base h₀ : Heap} {outer : List Env} {L : Addr} {m : Str → Option Value} {env : Env} {K : Frag}
  {R : Result → Shared → Prop} {name qual : Str} {params : Arguments} {body : List Stmt} {scope : Scope} {dV kV doc pm cdv ct oc : Value} {an od : Option Addr} {osl : Array (Option Value)} {f : Addr} {args : Args} {binds : List (Str × Value)}
theorem callF (B : Below A₀ base outer h₀) (F : Fr h₀ L s.heap m) (X₀ : K.In h₀) (hlim : h₀.NoLimit) (hA : A.frames = some (env :: outer)) (hf : env.frame = some L) (hke : env.scope.kind = .function)
    (ho : K.lookup f = some ⟨oc, od, .func (fnOf name qual params body scope dV kV doc pm an cdv ct), osl⟩) (hcd : codeIn K cdv qual = true) (hroom : A.depth < recursionLimit)
    (hbind : BindsTo s (fnOf name qual params body scope dV kV doc pm an cdv ct) args binds) (hloc : ∀ y ∈ binds, scope.names.lookup y.1 = some .local)
    (h : ∀ L' h₁, Fr s.heap L' h₁ (fun y => binds.reverse.lookup y) → Below A base (env :: outer) s.heap →
      wpAny (model prog w) (A.deeper (envOf qual scope L' f cdv)) (execs body (envOf qual scope L' f cdv))
        (fun fl s' => R (.ok (.ret (match fl with | .ret v => v | _ => .none))) s')
        (fun e s' => wpAny (model prog w) (A.deeper (envOf qual scope L' f cdv)) (leaving (envOf qual scope L' f cdv) e) (fun _ s'' => R (.error e) s'') (fun e' s'' => R (.error e') s'') s')
        { s with heap := h₁, toks := s.toks + binds.length })
    (hcell : ∀ x ∈ scope.names, x.2 ≠ .cell) (hco : scope.isCoroutine = false := by rfl) (hgen : scope.isGenerator = false := by rfl) (hk : scope.kind = .function := by rfl) :
    codeAny (model prog w) A (.call (.ref f) args) R s := by
  have B₁ := pushX B F hf hke
  refine codeAny_call_def (fd := fnOf name qual params body scope dV kV doc pm an cdv ct) (body := body) (binds := binds) hroom ((X₀.keeps F.keep) _ _ ho) rfl (hlim.keeps F.keep) (codeRec_of (X₀.keeps F.keep) hcd) rfl hbind hcell hloc (fun h₁ hns hk₁ => ?_) hco hgen hk
  exact h s.heap.objs.size h₁ ⟨hns, hk₁, Nat.le_refl _⟩ ⟨hA, B₁.stays, B₁.frames⟩
end
noncomputable def Pure (w : World) (mean : ExcName → Option Value) (mg mb : Str → Option Value) (f : Addr) (args : List Value) (n u : Nat) (s : Shared) (P : Heap → Value → Prop) : Prop :=
  ∀ (A A₀ : Around) (base h₀ : Heap) (outer : List Env) (env : Env) (L : Addr) (m : Str → Option Value) (Q E : Value → Shared → Prop),
    A.handled = none → A.frames = some (env :: outer) → env.frame = some L → env.scope.kind = .function → A.depth + n < recursionLimit → A.units + u < cLine →
    Below A₀ base outer h₀ → Fr h₀ L s.heap m → (Mine.hd.heap_39 w.params).In h₀ → TopH mean mg mb h₀ →
    (∀ v h' tk' dr', Keep s.heap h' → Fr h₀ L h' m → P h' v → Q v { s with heap := h', toks := tk', drawn := dr' }) → wpAny (model PG w) A (call (.ref f) args) Q E s
noncomputable def PostF (s : Shared) (P : Heap → Value → Prop) (fl : Flow) (s' : Shared) : Prop :=
  ∃ v h' tk' dr', (match fl with | .ret v => v | _ => .none) = v ∧ Keep s.heap h' ∧ s' = { s with heap := h', toks := tk', drawn := dr' } ∧ P h' v
theorem pure_enter {w : World} {mean : ExcName → Option Value} {mg mb : Str → Option Value} {s : Shared} {P : Heap → Value → Prop} {name qual : Str} {params : Arguments} {body : List Stmt} {scope : Scope} {dV kV doc pm cdv ct oc : Value} {an od : Option Addr} {osl : Array (Option Value)} {f : Addr} {args : List Value} (binds : List (Str × Value)) {n u : Nat}
    (ho : (Mine.hd.heap_39 w.params).lookup f = some ⟨oc, od, .func (fnOf name qual params body scope dV kV doc pm an cdv ct), osl⟩) (hcd : codeIn (Mine.hd.heap_39 w.params) cdv qual = true)
    (hbind : BindsTo s (fnOf name qual params body scope dV kV doc pm an cdv ct) ⟨args, []⟩ binds) (hloc : ∀ y ∈ binds, scope.names.lookup y.1 = some .local) (hn : 1 ≤ n)
    (hcell : ∀ x ∈ scope.names, x.2 ≠ .cell) (hco : scope.isCoroutine = false) (hgen : scope.isGenerator = false) (hk : scope.kind = .function)
    (h : ∀ (A : Around) (base : Heap) (outer : List Env) (L' : Addr) (h₁ : Heap), A.handled = none → A.depth + n < recursionLimit → A.units + u < cLine → Fr s.heap L' h₁ (fun y => binds.reverse.lookup y) → Below A base outer s.heap →
      (Mine.hd.heap_39 w.params).In s.heap → TopH mean mg mb s.heap → News s.heap L' h₁ [] →
      wpAny (model PG w) (A.deeper (envOf qual scope L' f cdv)) (execs body (envOf qual scope L' f cdv)) (PostF s P) (fun _ _ => False) { s with heap := h₁, toks := s.toks + binds.length }) :
    Pure w mean mg mb f args n u s P := by
  intro A A₀ base h₀ outer env L m Q E hh hA hf hke hd hu B F X T ret
  refine wpAny_call (callF (B := B) (F := F) (X₀ := X) (hlim := T.nolimit) (hA := hA) (hf := hf) (hke := hke) (ho := ho) (hcd := hcd) (hroom := by omega) (hbind := hbind) (hloc := hloc) ?_ hcell hco hgen hk)
  intro L' h₁ F1 B1
  refine wpAny_mono (h A base (env :: outer) L' h₁ hh hd hu F1 B1 (X.keeps F.keep) (T.keeps F.keep) News.nil) (fun fl s' hp => ?_) (fun _ _ x => x.elim)
  obtain ⟨v, h', tk', dr', e, hk, rfl, hp⟩ := hp
  subst e
  exact ret _ _ _ _ hk (hk.fr F) hp
theorem endB {s s' : Shared} {b c : Bool} {h' : Heap} {tk' : Nat} {dr' : Drawn} {L : Addr} {m : Str → Option Value} (F : Fr s.heap L h' m) (e : b = c) (hs : s' = { s with heap := h', toks := tk', drawn := dr' }) : PostF s (fun _ r => r = .bool c) (.ret (.bool b)) s' :=
  ⟨_, h', tk', dr', rfl, F.keep, hs, by rw [e]⟩
noncomputable def Pure0 (w : World) (mean : ExcName → Option Value) (mg mb : Str → Option Value) (f : Addr) (args : List Value) (n u : Nat) (s : Shared) (P : Heap → Value → Prop) : Prop :=
  ∀ (A A₀ : Around) (base h₀ : Heap) (outer : List Env) (env : Env) (L : Addr) (m : Str → Option Value) (Q E : Value → Shared → Prop),
    A.handled = none → A.frames = some (env :: outer) → env.frame = some L → env.scope.kind = .function → A.depth + n < recursionLimit → A.units + u < cLine →
    Below A₀ base outer h₀ → Fr h₀ L s.heap m → (Mine.hd.heap_39 w.params).In h₀ → TopH mean mg mb h₀ →
    (∀ v h' tk', Keep s.heap h' → Fr h₀ L h' m → P h' v → Q v { s with heap := h', toks := tk' }) → wpAny (model PG w) A (call (.ref f) args) Q E s
noncomputable def PostF0 (s : Shared) (P : Heap → Value → Prop) (fl : Flow) (s' : Shared) : Prop :=
  ∃ v h' tk', (match fl with | .ret v => v | _ => .none) = v ∧ Keep s.heap h' ∧ s' = { s with heap := h', toks := tk' } ∧ P h' v
theorem pure_enter0 {w : World} {mean : ExcName → Option Value} {mg mb : Str → Option Value} {s : Shared} {P : Heap → Value → Prop} {name qual : Str} {params : Arguments} {body : List Stmt} {scope : Scope} {dV kV doc pm cdv ct oc : Value} {an od : Option Addr} {osl : Array (Option Value)} {f : Addr} {args : List Value} (binds : List (Str × Value)) {n u : Nat}
    (ho : (Mine.hd.heap_39 w.params).lookup f = some ⟨oc, od, .func (fnOf name qual params body scope dV kV doc pm an cdv ct), osl⟩) (hcd : codeIn (Mine.hd.heap_39 w.params) cdv qual = true)
    (hbind : BindsTo s (fnOf name qual params body scope dV kV doc pm an cdv ct) ⟨args, []⟩ binds) (hloc : ∀ y ∈ binds, scope.names.lookup y.1 = some .local) (hn : 1 ≤ n)
    (hcell : ∀ x ∈ scope.names, x.2 ≠ .cell) (hco : scope.isCoroutine = false) (hgen : scope.isGenerator = false) (hk : scope.kind = .function)
    (h : ∀ (A : Around) (base : Heap) (outer : List Env) (L' : Addr) (h₁ : Heap), A.handled = none → A.depth + n < recursionLimit → A.units + u < cLine → Fr s.heap L' h₁ (fun y => binds.reverse.lookup y) → Below A base outer s.heap →
      (Mine.hd.heap_39 w.params).In s.heap → TopH mean mg mb s.heap → News s.heap L' h₁ [] →
      wpAny (model PG w) (A.deeper (envOf qual scope L' f cdv)) (execs body (envOf qual scope L' f cdv)) (PostF0 s P) (fun _ _ => False) { s with heap := h₁, toks := s.toks + binds.length }) :
    Pure0 w mean mg mb f args n u s P := by
  intro A A₀ base h₀ outer env L m Q E hh hA hf hke hd hu B F X T ret
  refine wpAny_call (callF (B := B) (F := F) (X₀ := X) (hlim := T.nolimit) (hA := hA) (hf := hf) (hke := hke) (ho := ho) (hcd := hcd) (hroom := by omega) (hbind := hbind) (hloc := hloc) ?_ hcell hco hgen hk)
  intro L' h₁ F1 B1
  refine wpAny_mono (h A base (env :: outer) L' h₁ hh hd hu F1 B1 (X.keeps F.keep) (T.keeps F.keep) News.nil) (fun fl s' hp => ?_) (fun _ _ x => x.elim)
  obtain ⟨v, h', tk', e, hk, rfl, hp⟩ := hp
  subst e
  exact ret _ _ _ hk (hk.fr F) hp
theorem endB0 {s s' : Shared} {b c : Bool} {h' : Heap} {tk' : Nat} {L : Addr} {m : Str → Option Value} (F : Fr s.heap L h' m) (e : b = c) (hs : s' = { s with heap := h', toks := tk' }) : PostF0 s (fun _ r => r = .bool c) (.ret (.bool b)) s' :=
  ⟨_, h', tk', rfl, F.keep, hs, by rw [e]⟩
section
variable {prog : Program} {w : World} {A₀ A : Around} {s : Shared} {base h₀ : Heap} {outer : List Env} {L : Addr} {m : Str → Option Value} {env : Env} {K : Frag}
  {R : Result → Shared → Prop} {name qual : Str} {params : Arguments} {body : List Stmt} {scope : Scope} {dV kV doc pm cdv ct oc : Value} {an od : Option Addr} {osl : Array (Option Value)} {f : Addr} {args : Args} {binds : List (Str × Value)}
theorem callFC (B : Below A₀ base outer h₀) (F : Fr h₀ L s.heap m) (X₀ : K.In h₀) (hlim : h₀.NoLimit) (hA : A.frames = some (env :: outer)) (hf : env.frame = some L) (hke : env.scope.kind = .function)
    (ho : K.lookup f = some ⟨oc, od, .func (fnOf name qual params body scope dV kV doc pm an cdv ct), osl⟩) (hcd : codeIn K cdv qual = true) (hroom : A.depth < recursionLimit)
    (hbind : BindsTo s (fnOf name qual params body scope dV kV doc pm an cdv ct) args binds) (hkind : (binds.all fun y => scope.names.lookup y.1 == some .local || scope.names.lookup y.1 == some .cell) = true)
    (hnd : ((cellsFrom 0 scope.names []).map (·.1)).Nodup)
    (h : ∀ L' h₁ tk cells, Fr s.heap L' h₁ (bindL (envOfC qual scope L' f cdv).kindOf binds fun _ => none) → News s.heap L' h₁ cells →
      CellsAre (bindC (envOfC qual scope L' f cdv).kindOf binds fun _ => none) (cellsFrom (L' + 1) scope.names []) cells → Below A base (env :: outer) s.heap →
      wpAny (model prog w) (A.deeper (envOfC qual scope L' f cdv)) (execs body (envOfC qual scope L' f cdv))
        (fun fl s' => R (.ok (.ret (match fl with | .ret v => v | _ => .none))) s')
        (fun e s' => wpAny (model prog w) (A.deeper (envOfC qual scope L' f cdv)) (leaving (envOfC qual scope L' f cdv) e) (fun _ s'' => R (.error e) s'') (fun e' s'' => R (.error e') s'') s')
        { s with heap := h₁, toks := tk })
    (hco : scope.isCoroutine = false := by rfl) (hgen : scope.isGenerator = false := by rfl) (hk : scope.kind = .function := by rfl) :
    codeAny (model prog w) A (.call (.ref f) args) R s := by
  have B₁ := pushX B F hf hke
  refine codeAny_call_function hroom ((X₀.keeps F.keep) _ _ ho) rfl hco hgen rfl (codeRec_of (X₀.keeps F.keep) hcd) (hbind _ _ _ _ ?_)
  refine wpAny_newFunctionEnv_cells hk (kindsX hkind _) fun env' he s' x => ?_
  subst he
  refine ⟨(hlim.keeps F.keep).keeps x.toInCall.keep, codeAny_func ?_⟩
  obtain ⟨h₁, tk, rfl, _⟩ := x.done
  have hk₁ := x.toInCall.keep
  obtain ⟨cells, NC, Y⟩ := Cl.news (h₀ := s.heap) (Nat.le_refl _) fun n c hm => ⟨x.cell n c (lookup_of_mem_nodup (cellsFrom_names scope.names 0 (s.heap.objs.size + 1) [] [] rfl ▸ hnd) hm), x.above n c hm⟩
  exact h s.heap.objs.size h₁ tk cells ⟨x.toInCall.ns, hk₁, Nat.le_refl _⟩ NC Y ⟨hA, B₁.stays, B₁.frames⟩
end
theorem pure_enterC {w : World} {mean : ExcName → Option Value} {mg mb : Str → Option Value} {s : Shared} {P : Heap → Value → Prop} {name qual : Str} {params : Arguments} {body : List Stmt} {scope : Scope} {dV kV doc pm cdv ct oc : Value} {an od : Option Addr} {osl : Array (Option Value)} {f : Addr} {args : List Value} (binds : List (Str × Value)) {n u : Nat}
    (ho : (Mine.hd.heap_39 w.params).lookup f = some ⟨oc, od, .func (fnOf name qual params body scope dV kV doc pm an cdv ct), osl⟩) (hcd : codeIn (Mine.hd.heap_39 w.params) cdv qual = true)
    (hbind : BindsTo s (fnOf name qual params body scope dV kV doc pm an cdv ct) ⟨args, []⟩ binds) (hkind : (binds.all fun y => scope.names.lookup y.1 == some .local || scope.names.lookup y.1 == some .cell) = true)
    (hnd : ((cellsFrom 0 scope.names []).map (·.1)).Nodup) (hn : 1 ≤ n) (hco : scope.isCoroutine = false) (hgen : scope.isGenerator = false) (hk : scope.kind = .function)
    (h : ∀ (A : Around) (base : Heap) (outer : List Env) (L' : Addr) (h₁ : Heap) (tk : Nat) (cells : List (Addr × Obj)), A.handled = none → A.depth + n < recursionLimit → A.units + u < cLine → Fr s.heap L' h₁ (bindL (envOfC qual scope L' f cdv).kindOf binds fun _ => none) → Below A base outer s.heap →
      (Mine.hd.heap_39 w.params).In s.heap → TopH mean mg mb s.heap → News s.heap L' h₁ cells → CellsAre (bindC (envOfC qual scope L' f cdv).kindOf binds fun _ => none) (cellsFrom (L' + 1) scope.names []) cells →
      wpAny (model PG w) (A.deeper (envOfC qual scope L' f cdv)) (execs body (envOfC qual scope L' f cdv)) (PostF s P) (fun _ _ => False) { s with heap := h₁, toks := tk }) :
    Pure w mean mg mb f args n u s P := by
  intro A A₀ base h₀ outer env L m Q E hh hA hf hke hd hu B F X T ret
  refine wpAny_call (callFC (B := B) (F := F) (X₀ := X) (hlim := T.nolimit) (hA := hA) (hf := hf) (hke := hke) (ho := ho) (hcd := hcd) (hroom := by omega) (hbind := hbind) (hkind := hkind) (hnd := hnd) ?_ hco hgen hk)
  intro L' h₁ tk cells F1 N1 Y B1
  refine wpAny_mono (h A base (env :: outer) L' h₁ tk cells hh hd hu F1 B1 (X.keeps F.keep) (T.keeps F.keep) N1 Y) (fun fl s' hp => ?_) (fun _ _ x => x.elim)
  obtain ⟨v, h', tk', dr', e, hk, rfl, hp⟩ := hp
  subst e
  exact ret _ _ _ _ hk (hk.fr F) hp
end Mine
namespace Mine
theorem frPin {h₀ h : Heap} {L : Addr} {m : Str → Option Value} {x : Str} {v : Value} (F : Fr h₀ L h m) (e : m x = some v) : Fr h₀ L h (fun y => if y = x then some v else m y) := by
  have : (fun y => if y = x then some v else m y) = m := by
    funext y
    by_cases h : y = x
    · rw [if_pos h, h, e]
    · rw [if_neg h]
  rw [this]; exact F
noncomputable def isTup : PyData → Bool | .tuple _ => true | _ => false
noncomputable def isStr : PyData → Bool | .str _ => true | _ => false
noncomputable def kids : PyData → List PyData | .tuple xs => xs | _ => []
mutual
noncomputable def sz : PyData → Nat
  | .tuple xs => szAll xs + 1
  | .str x => x.length + 1
  | _ => 1
noncomputable def szAll : List PyData → Nat
  | [] => 0
  | d :: r => sz d + szAll r
end
theorem readsAll_len {h : Heap} : ∀ {vs : List Value} {ds : List PyData} {as : List Addr}, ReadsAll h vs ds as → vs.length = ds.length
  | _, _, _, .nil => rfl
  | _, _, _, .cons _ r => by rw [List.length_cons, List.length_cons, readsAll_len r]
theorem readsAll_app {h : Heap} : ∀ {vs ws : List Value} {ds es : List PyData}, ReadsAll h vs ds [] → ReadsAll h ws es [] → ReadsAll h (vs ++ ws) (ds ++ es) [] := by
  intro vs
  induction vs with
  | nil => intro ws ds es h k; cases h; exact k
  | cons v vs ih =>
    intro ws ds es h k
    generalize e : ([] : List Addr) = as at h
    cases h with
    | cons h1 h2 =>
      obtain ⟨e1, e2⟩ := List.append_eq_nil_iff.mp e.symm
      subst e1 e2
      exact ReadsAll.cons h1 (ih h2 k)
theorem readsAll_split {h : Heap} : ∀ {vs ws : List Value} {ds : List PyData}, ReadsAll h (vs ++ ws) ds [] → ∃ d1 d2, ds = d1 ++ d2 ∧ ReadsAll h vs d1 [] ∧ ReadsAll h ws d2 [] := by
  intro vs
  induction vs with
  | nil => intro ws ds h; exact ⟨[], ds, rfl, .nil, h⟩
  | cons v vs ih =>
    intro ws ds h
    generalize e : ([] : List Addr) = as at h
    cases h with
    | cons h1 h2 =>
      obtain ⟨e1, e2⟩ := List.append_eq_nil_iff.mp e.symm
      subst e1 e2
      obtain ⟨d1, d2, rfl, r1, r2⟩ := ih h2
      exact ⟨_ :: d1, d2, rfl, .cons h1 r1, r2⟩
theorem readsAll_one {h : Heap} {v : Value} {ds : List PyData} (r : ReadsAll h [v] ds []) : ∃ d, ds = [d] ∧ Reads h v d [] := by
  generalize e : ([] : List Addr) = as at r
  cases r with
  | cons h1 h2 =>
    obtain ⟨e1, e2⟩ := List.append_eq_nil_iff.mp e.symm
    subst e1 e2
    cases h2
    exact ⟨_, rfl, h1⟩
theorem readsAll_cons {h : Heap} {v : Value} {vs : List Value} {ds : List PyData} (r : ReadsAll h (v :: vs) ds []) : ∃ d es, ds = d :: es ∧ Reads h v d [] ∧ ReadsAll h vs es [] := by
  generalize e : ([] : List Addr) = as at r
  cases r with
  | cons h1 h2 =>
    obtain ⟨e1, e2⟩ := List.append_eq_nil_iff.mp e.symm
    subst e1 e2
    exact ⟨_, _, rfl, h1, h2⟩
theorem readsAll_get {h : Heap} : ∀ {vs : List Value} {ds : List PyData} (_ : ReadsAll h vs ds []) (k : Nat) (d : PyData), ds[k]? = some d → ∃ v, vs[k]? = some v ∧ Reads h v d [] := by
  intro vs
  induction vs with
  | nil => intro ds r k d e; cases r; simp at e
  | cons v vs ih =>
    intro ds r k d e
    obtain ⟨d', es, rfl, r1, r2⟩ := readsAll_cons r
    cases k with
    | zero => simp at e; subst e; exact ⟨v, rfl, r1⟩
    | succ k => simp at e; simpa using ih r2 k d e
theorem reads_tup {h : Heap} {v : Value} {xs : List PyData} (R : Reads h v (.tuple xs) []) : ∃ a o vs n, v = .ref a ∧ h.get? a = some o ∧ o.cls = .type "tuple" ∧ o.data = .seq vs n ∧ ReadsAll h vs.toList xs [] := by
  cases R with
  | tuple h1 h2 h3 h4 => exact ⟨_, _, _, _, rfl, h1, h2, h3, h4⟩
theorem szAll_app : ∀ (a b : List PyData), szAll (a ++ b) = szAll a + szAll b
  | [], b => by simp [szAll]
  | x :: a, b => by simp only [List.cons_append, szAll, szAll_app a b]; omega
theorem szAll_len : ∀ (a : List PyData), a.length ≤ szAll a
  | [] => by simp [szAll]
  | x :: a => by
    have := szAll_len a
    have h1 : 1 ≤ sz x := by cases x <;> simp [sz]
    simp only [List.length_cons, szAll]; omega
section
variable {prog : Program} {w : World} {A : Around} {E : Value → Shared → Prop} {s : Shared} {h₀ : Heap} {L D : Addr} {m : Str → Option Value} {v : Value} {d : PyData} {xs : List PyData}
theorem isiTup {Q : Value → Shared → Prop} (R : Reads s.heap v d []) (hT : isTup d = true → Q (.bool true) s) (hF : isTup d = false → ∀ tk, Q (.bool false) { s with toks := tk }) : wpAny (model prog w) A (call (.builtin "isinstance") [v, .type "tuple"]) Q E s := by
  generalize e : ([] : List Addr) = as at R
  cases R with
  | none => exact IsiPair.NoneType_tuple (hF rfl _)
  | bool b => exact IsiPair.bool_tuple (hF rfl _)
  | int i t => exact IsiPair.int_tuple (hF rfl _)
  | str x t => exact IsiPair.str_tuple (hF rfl _)
  | list => cases e
  | tuple h1 h2 h3 h4 => exact IsiPair.tuple_tuple h1 h2 (hT rfl)
  | dict => cases e
theorem isiStr {Q : Value → Shared → Prop} (R : Reads s.heap v d []) (hT : ∀ x t, v = .str x t → d = .str x → x.length < sz d → Q (.bool true) s) (hF : isStr d = false → ∀ tk, Q (.bool false) { s with toks := tk }) : wpAny (model prog w) A (call (.builtin "isinstance") [v, .type "str"]) Q E s := by
  generalize e : ([] : List Addr) = as at R
  cases R with
  | none => exact IsiPair.NoneType_str (hF rfl _)
  | bool b => exact IsiPair.bool_str (hF rfl _)
  | int i t => exact IsiPair.int_str (hF rfl _)
  | str x t => exact IsiPair.str_str (hT x t rfl rfl (by simp [sz]))
  | list => cases e
  | tuple h1 h2 h3 h4 => exact IsiPair.tuple_str h1 h2 (hF rfl _)
  | dict => cases e
theorem reads_strE {h : Heap} {x : Str} (R : Reads h v d []) (e : d = .str x) : ∃ t, v = .str x t := by
  subst e
  cases R with
  | str x t => exact ⟨t, rfl⟩
theorem reads_isTup {h : Heap} (R : Reads h v d []) (ht : isTup d = true) : Reads h v (.tuple (kids d)) [] := by
  cases d <;> first | exact R | cases ht
theorem lenTup {Q : Value → Shared → Prop} (R : Reads s.heap v d []) (ht : isTup d = true) (hz : (kids d).length ≤ 2 ^ 20) (h : ∀ t tk, Q (.int (kids d).length t) { s with toks := tk }) : wpAny (model prog w) A (call (.builtin "len") [v]) Q E s := by
  obtain ⟨a, o, vs, n, rfl, h1, h2, h3, h4⟩ := reads_tup (reads_isTup R ht)
  have hl : vs.size = (kids d).length := by rw [← readsAll_len h4, Array.length_toList]
  refine len_tuple ⟨o, h1, h2, n, h3⟩ (by omega) ?_
  rw [hl]
  exact h _ _
theorem lenLst {Q : Value → Shared → Prop} {vs : List Value} {k : Nat} {news : List (Addr × Obj)} (N : News h₀ L s.heap news) (hm : (D, listOf vs.toArray k) ∈ news) (hz : vs.length ≤ 2 ^ 20) (h : ∀ t tk, Q (.int vs.length t) { s with toks := tk }) : wpAny (model prog w) A (call (.builtin "len") [.ref D]) Q E s := by
  refine len_list (N.isList hm) (by simp; omega) ?_
  simpa using h _ _
theorem popLst {Q : Value → Shared → Prop} {vs : List Value} {k : Nat} {news news' : List (Addr × Obj)} (F : Fr h₀ L s.heap m) (N : News h₀ L s.heap news) (U : Upd D (listOf (vs ++ [v]).toArray k) (listOf vs.toArray (k + 1)) news news') (hz : vs.length < 2 ^ 20)
    (h : ∀ h', Fr h₀ L h' m → News h₀ L h' news' → Q v { s with heap := h' }) : wpAny (model prog w) A (call (.builtin "list.pop") [.ref D]) Q E s := by
  refine kl_pop F N ?_ U (by simp [sizeLine]; omega) h
  simp only [List.toList_toArray]
  clear U hz h F N
  induction vs with
  | nil => rfl
  | cons x r ih => simp [kl_last, ih]
noncomputable def kid (d : PyData) (k : Nat) : PyData := (kids d).getD k .none
theorem kid_get {d : PyData} {k : Nat} (h : k < (kids d).length) : (kids d)[k]? = some (kid d k) := by
  unfold kid
  rw [List.getD_eq_getElem?_getD, List.getElem?_eq_getElem h]; rfl
theorem itemTup {Q : Value → Shared → Prop} {value slice : PySem.Expr} {i : Int} {k : Nat} {u : Tok} (R : Reads s.heap v d []) (ht : isTup d = true) (hi : i = (k : Int)) (hk : k < (kids d).length) (hz : k < 2 ^ 20)
    (h : ∀ v', Reads s.heap v' (kid d k) [] → Q v' s)
    (hs : ∀ a, subscripted slice false (.ref a) (.int i u) = operate [.ref a, .int i u] (getItem (.ref a) (.int i u))) :
    wpAny (model prog w) A (subscriptTail value slice v (.int i u)) Q E s := by
  subst hi
  obtain ⟨a, o, vs, n, rfl, g1, g2, g3, g4⟩ := reads_tup (reads_isTup R ht)
  obtain ⟨v', e, r⟩ := readsAll_get g4 _ _ (kid_get hk)
  have hl := readsAll_len g4
  refine item_tupleT (l := vs.toList) ⟨o, g1, g2, n, by simpa using g3⟩ (by omega) (by omega) (j := k) ?_ e (h _ r) (hs a)
  unfold seqIndex?
  rw [hl]
  have h1 : ¬ (k : Int) < 0 := by omega
  have h2 : (k : Int) < ((kids d).length : Int) := by omega
  simp [h1, hk]
theorem itemTup0 {Q : Value → Shared → Prop} {value slice : PySem.Expr} {u : Tok} (R : Reads s.heap v d []) (ht : isTup d = true) (hk : 0 < (kids d).length)
    (h : ∀ v', Reads s.heap v' (kid d 0) [] → Q v' s)
    (hs : ∀ a, subscripted slice false (.ref a) (.int 0 u) = operate [.ref a, .int 0 u] (getItem (.ref a) (.int 0 u))) :
    wpAny (model prog w) A (subscriptTail value slice v (.int 0 u)) Q E s := itemTup (k := 0) R ht rfl hk (by decide) h hs
theorem itemTup1 {Q : Value → Shared → Prop} {value slice : PySem.Expr} {u : Tok} (R : Reads s.heap v d []) (ht : isTup d = true) (hk : 1 < (kids d).length)
    (h : ∀ v', Reads s.heap v' (kid d 1) [] → Q v' s)
    (hs : ∀ a, subscripted slice false (.ref a) (.int 1 u) = operate [.ref a, .int 1 u] (getItem (.ref a) (.int 1 u))) :
    wpAny (model prog w) A (subscriptTail value slice v (.int 1 u)) Q E s := itemTup (k := 1) R ht rfl hk (by decide) h hs
theorem itemTup2 {Q : Value → Shared → Prop} {value slice : PySem.Expr} {u : Tok} (R : Reads s.heap v d []) (ht : isTup d = true) (hk : 2 < (kids d).length)
    (h : ∀ v', Reads s.heap v' (kid d 2) [] → Q v' s)
    (hs : ∀ a, subscripted slice false (.ref a) (.int 2 u) = operate [.ref a, .int 2 u] (getItem (.ref a) (.int 2 u))) :
    wpAny (model prog w) A (subscriptTail value slice v (.int 2 u)) Q E s := itemTup (k := 2) R ht rfl hk (by decide) h hs
theorem sliceTup1 {Q : Value → Shared → Prop} {value slice : PySem.Expr} {u : Tok} {news : List (Addr × Obj)} (F : Fr h₀ L s.heap m) (N : News h₀ L s.heap news) (R : Reads h₀ v d []) (ht : isTup d = true) (h1 : 1 ≤ (kids d).length) (hz : (kids d).length ≤ 2 ^ 20)
    (h : ∀ D h' vs, Fr h₀ L h' m → News h₀ L h' ((D, { cls := .type "tuple", data := .seq vs.toArray }) :: news) → ReadsAll h₀ vs ((kids d).drop 1) [] → (∀ p ∈ news, p.1 < D) → vs.length + 1 = (kids d).length → Q (.ref D) { s with heap := h' })
    (hs : ∀ t, subscripted slice false (.ref t) (.ref s.heap.objs.size) = operate [.ref s.heap.objs.size, .ref t] (getItem (.ref t) (.ref s.heap.objs.size)))
    (hg : ∀ t r, letTemporaryGo value (.ref t) r = pure ()) :
    wpAny (model prog w) A (subscriptTail value slice v (.ref s.heap.objs.size)) Q E { s with heap := s.heap.push { cls := .type "slice", data := .fields #[.int 1 u, .none, .none] } } := by
  obtain ⟨a, o, vs, n, rfl, g1, g2, g3, g4⟩ := reads_tup (reads_isTup R ht)
  have hl := readsAll_len g4
  refine slice_tuple_from (a := 1) F N (IsTup.keeps ⟨o, g1, g2, n, g3⟩ F.keep) (Nat.le_refl 1) (by rw [← Array.length_toList, hl]; exact h1) (fun h' F' N' => h _ h' _ F' N' ?_ ?_ ?_) (hs _) (hg _) (by rw [← Array.length_toList, hl, sizeLine_eq]; omega)
  · generalize vs.toList = l at g4 hl
    cases l with
    | nil => rw [← hl] at h1; simp at h1
    | cons x r =>
      obtain ⟨d', es, e, r1, r2⟩ := readsAll_cons g4
      rw [e]; simpa using r2
  · intro p hp
    exact Nat.lt_succ_of_lt (Heap.lt_size (N p hp).1)
  · rw [List.length_drop, hl]; omega
theorem extLst {Q : Value → Shared → Prop} {b : Addr} {ws vs : List Value} {k k2 : Nat} {news : List (Addr × Obj)} {news' : Nat → List (Addr × Obj)} (F : Fr h₀ L s.heap m) (N : News h₀ L s.heap news) (hb : (b, ({ cls := .type "tuple", data := .seq vs.toArray k2 } : Obj)) ∈ news)
    (U : ∀ k', Upd D (listOf ws.toArray k) (listOf (ws ++ vs).toArray k') news (news' k')) (hz : ws.length + vs.length ≤ 2 ^ 20)
    (h : ∀ h' k', Fr h₀ L h' m → News h₀ L h' (news' k') → Q .none { s with heap := h' }) : wpAny (model prog w) A (call (.builtin "list.extend") [.ref D, .ref b]) Q E s := by
  obtain ⟨pre, post, e1, e2, a, c⟩ := (U (if (ws.toArray ++ vs.toArray).size == ws.toArray.size then k else k + 1)).split
  subst e1
  have z := N (D, listOf ws.toArray k) (List.mem_append.mpr (.inr (.head _)))
  refine call_meets PySem.F.slot_list_extend ⟨_, z.1, rfl⟩ PySem.F.entry_list_extend (PySem.F.args_list_extend_2 _ _) (PySem.AutoSeq1.list_extend_list_tuple_0 D ws.toArray k b vs.toArray k2 (extend_door (by simp [sizeLine_eq]; omega)) (by simp [sizeLine_eq]; omega) (by simp [sizeLine_eq]; omega)) ⟨z.1, (N _ hb).1, h _ (if (ws.toArray ++ vs.toArray).size == ws.toArray.size then k else k + 1) (F.change (Heap.SameBut.update ..) z.2.1 z.2.2) ?_⟩
  rw [e2]
  refine news_set N a c (Heap.SameBut.update ..) ?_
  have q := PySem.IsL.update z.1 (fun x => x ++ vs.toArray)
  have e3 : (ws ++ vs).toArray = ws.toArray ++ vs.toArray := by simp
  rw [e3]
  exact q
theorem itemB {Q : Value → Shared → Prop} {value slice : PySem.Expr} {i : Int} {k : Nat} {u : Tok} (F : Fr h₀ L s.heap m) (R : Reads h₀ v d []) (ht : isTup d = true) (hi : i = (k : Int)) (hk : k < (kids d).length) (hz : k < 2 ^ 20)
    (h : ∀ v', Reads h₀ v' (kid d k) [] → Q v' s)
    (hs : ∀ a, subscripted slice false (.ref a) (.int i u) = operate [.ref a, .int i u] (getItem (.ref a) (.int i u))) :
    wpAny (model prog w) A (subscriptTail value slice v (.int i u)) Q E s := by
  subst hi
  obtain ⟨a, o, vs, n, rfl, g1, g2, g3, g4⟩ := reads_tup (reads_isTup R ht)
  obtain ⟨v', e, r⟩ := readsAll_get g4 _ _ (kid_get hk)
  have hl := readsAll_len g4
  refine item_tupleT (l := vs.toList) (IsTup.keeps ⟨o, g1, g2, n, by simpa using g3⟩ F.keep) (by omega) (by omega) (j := k) ?_ e (h _ r) (hs a)
  unfold seqIndex?
  rw [hl]
  have h1 : ¬ (k : Int) < 0 := by omega
  have h2 : (k : Int) < ((kids d).length : Int) := by omega
  simp [h1, hk]
theorem itemB0 {Q : Value → Shared → Prop} {value slice : PySem.Expr} {u : Tok} (F : Fr h₀ L s.heap m) (R : Reads h₀ v d []) (ht : isTup d = true) (hk : 0 < (kids d).length)
    (h : ∀ v', Reads h₀ v' (kid d 0) [] → Q v' s)
    (hs : ∀ a, subscripted slice false (.ref a) (.int 0 u) = operate [.ref a, .int 0 u] (getItem (.ref a) (.int 0 u))) :
    wpAny (model prog w) A (subscriptTail value slice v (.int 0 u)) Q E s := itemB (k := 0) F R ht rfl hk (by decide) h hs
theorem itemB1 {Q : Value → Shared → Prop} {value slice : PySem.Expr} {u : Tok} (F : Fr h₀ L s.heap m) (R : Reads h₀ v d []) (ht : isTup d = true) (hk : 1 < (kids d).length)
    (h : ∀ v', Reads h₀ v' (kid d 1) [] → Q v' s)
    (hs : ∀ a, subscripted slice false (.ref a) (.int 1 u) = operate [.ref a, .int 1 u] (getItem (.ref a) (.int 1 u))) :
    wpAny (model prog w) A (subscriptTail value slice v (.int 1 u)) Q E s := itemB (k := 1) F R ht rfl hk (by decide) h hs
theorem itemB2 {Q : Value → Shared → Prop} {value slice : PySem.Expr} {u : Tok} (F : Fr h₀ L s.heap m) (R : Reads h₀ v d []) (ht : isTup d = true) (hk : 2 < (kids d).length)
    (h : ∀ v', Reads h₀ v' (kid d 2) [] → Q v' s)
    (hs : ∀ a, subscripted slice false (.ref a) (.int 2 u) = operate [.ref a, .int 2 u] (getItem (.ref a) (.int 2 u))) :
    wpAny (model prog w) A (subscriptTail value slice v (.int 2 u)) Q E s := itemB (k := 2) F R ht rfl hk (by decide) h hs
theorem strCut1 {x : Str} {t : Tok} {j : Int} {uj : Tok} {Q : Value → Shared → Prop} {value slice : PySem.Expr} {news : List (Addr × Obj)} (hF : Fr h₀ L s.heap m) (hN : News h₀ L s.heap news) (hsz : x.length ≤ sizeLine)
    (h : ∀ h' t' k, Fr h₀ L h' m → News h₀ L h' news → Keep s.heap h' → Q (.str (Txt.slice x none (some j)) t') { s with heap := h', toks := k })
    (hs : subscripted slice false (.str x t) (.ref s.heap.objs.size) = operate [.ref s.heap.objs.size, .str x t] (getItem (.str x t) (.ref s.heap.objs.size)) := by with_unfolding_all rfl)
    (ht : ∀ r, letTemporaryGo value (.str x t) r = pure () := by intro _; with_unfolding_all rfl) :
    wpAny (model prog w) A (subscriptTail value slice (.str x t) (.ref s.heap.objs.size)) Q E { s with heap := s.heap.push { cls := .type "slice", data := .fields #[.none, .int j uj, .none] } } :=
  tail_of_ItemOn (SBH.sliceItem_ns (P := fun h => (Fr h₀ L h m ∧ News h₀ L h news) ∧ Keep s.heap h) (fun h o a => ⟨keptFrN h o a.1, fun b o' e => Heap.get?_push_of_some _ (a.2 b o' e)⟩) ⟨⟨hF, hN⟩, Keep.refl _⟩ (fun h' t' k a => h h' t' k a.1.1 a.1.2 a.2) hsz) hs ht
theorem unpackTup {t : Addr} {items : Array Value} {n : Nat} {news : List (Addr × Obj)} {Q : List Value → Shared → Prop} (F : Fr h₀ L s.heap m) (N : News h₀ L s.heap news) (hh : A.handled = none) (ht : IsTup s.heap t items)
    (hn : n = items.size) (h : ∀ h', Fr h₀ L h' m → News h₀ L h' news → Keep s.heap h' → Q items.toList { s with heap := h' }) : wpAny (model prog w) A (unpackItems (.ref t) n none) Q E s := by
  subst hn
  exact unpackItems_tuple hh ht fun h' he => h h' (F.extBut he (Nat.le_refl _)) (N.extBut he (Nat.le_refl _)) fun b o e => he b o (Nat.ne_of_lt (Heap.lt_size e)) e
theorem asgPair {t : Addr} {v1 v2 : Value} {x y : Str} {p1 p2 pos : Pos} {kk : Nat} {env : Env} {news : List (Addr × Obj)} {Q : Unit → Shared → Prop} (F : Fr h₀ L s.heap m) (N : News h₀ L s.heap news) (hh : A.handled = none) (ht : IsTup s.heap t #[v1, v2])
    (h : ∀ h', Fr h₀ L h' m → News h₀ L h' news → Keep s.heap h' → wpAny (model prog w) A (storeName env x v1) (fun _ s₁ => wpAny (model prog w) A (storeName env y v2) Q E s₁) E { s with heap := h' }) :
    wpAny (model prog w) A (assign (.Tuple [.Name x p1, .Name y p2] kk pos) env (.ref t)) Q E s := by
  refine wpAny_assign_Tuple hh ht rfl rfl fun h' he => ?_
  refine wpAny_assignInOrder_more (wpAny_assign_Name (wpAny_mono (h h' (F.extBut he (Nat.le_refl _)) (N.extBut he (Nat.le_refl _)) fun b o e => he b o (Nat.ne_of_lt (Heap.lt_size e)) e) (fun _ s₁ h₁ => ?_) fun _ _ x => x))
  exact wpAny_assignInOrder_more (wpAny_assign_Name (wpAny_mono h₁ (fun _ s₂ h₂ => wpAny_assignInOrder_none h₂) fun _ _ x => x))
end
theorem newsAdd {g h h' : Heap} {L T : Addr} {m : Str → Option Value} {o : Obj} {news : List (Addr × Obj)} (F : Fr g L h m) (N : News g L h' news) (ho : h'.get? T = some o) (hn : h.get? T = none) : News g L h' ((T, o) :: news) := by
  intro p hp
  rcases List.mem_cons.mp hp with rfl | hp
  · refine ⟨ho, ?_, ?_⟩
    · rintro rfl
      obtain ⟨oL, _, _, hL, _⟩ := F.ns
      rw [hn] at hL; cases hL
    · cases q : g.get? T with
      | none => rfl
      | some o' => rw [F.keep T o' q] at hn; cases hn
  · exact N p hp
theorem newsNe {g h : Heap} {L T : Addr} {news : List (Addr × Obj)} (N : News g L h news) (hn : h.get? T = none) : ∀ p ∈ news, @Ne Nat p.1 T := fun p hp e => by
  have := (N p hp).1
  rw [e, hn] at this; cases this
end Mine
namespace Mine
theorem addLt {a n m k : Nat} (h : a + n < k) (hn : m ≤ n) : a + m < k := Nat.lt_of_le_of_lt (Nat.add_le_add_left hn a) h
theorem addLt1 {a c n m k : Nat} (h : a + n < k) (hn : c + m ≤ n) : a + c + m < k := Nat.add_assoc a c m ▸ addLt h hn
theorem addLt2 {a c d n m k : Nat} (h : a + n < k) (hn : c + d + m ≤ n) : a + c + d + m < k := Nat.add_assoc a c d ▸ addLt1 h hn
noncomputable def pickA {α : Type} (h : Nonempty α) (p : α → Prop) : α := @Classical.epsilon α h fun c => ¬ p c
theorem pickA_all {α : Type} {h : Nonempty α} {p : α → Prop} (k : p (pickA h p)) : ∀ c, p c := fun c => Classical.byContradiction fun hc => (@Classical.epsilon_spec α (fun c => ¬ p c) ⟨c, hc⟩) k
noncomputable def fdAt (f : Addr) : FuncData := match (Mine.hd.heap_39 (aWorld 1).params).lookup f with | some ⟨_, _, .func fd, _⟩ => fd | _ => default
noncomputable def stAt (f : Addr) : List Stmt := match (fdAt f).body with | .stmts b => b | _ => []
noncomputable def envAt (f L : Addr) : Env := envOf (fdAt f).qualname (fdAt f).scope L f (fdAt f).code
noncomputable def envAtC (f L : Addr) : Env := envOfC (fdAt f).qualname (fdAt f).scope L f (fdAt f).code
noncomputable def EntP (Post : Flow → Shared → Prop) (w : World) (mean : ExcName → Option Value) (mg mb : Str → Option Value) (s : Shared) (A : Around) (base : Heap) (outer : List Env) (L : Addr) (h : Heap) (n u : Nat) (binds : List (Str × Value)) (env : Env) (body : List Stmt) : Prop :=
  A.handled = none → A.depth + n < recursionLimit → A.units + u < cLine → Fr s.heap L h (fun y => binds.reverse.lookup y) → Below A base outer s.heap →
    (Mine.hd.heap_39 w.params).In s.heap → TopH mean mg mb s.heap → News s.heap L h [] →
    wpAny (model PG w) (A.deeper env) (execs body env) Post (fun _ _ => False) { s with heap := h, toks := s.toks + binds.length }
noncomputable def EntC (Post : Flow → Shared → Prop) (w : World) (mean : ExcName → Option Value) (mg mb : Str → Option Value) (s : Shared) (A : Around) (base : Heap) (outer : List Env) (L : Addr) (h : Heap) (n u : Nat) (binds : List (Str × Value)) (env : Env) (body : List Stmt) : Prop :=
  ∀ (tk : Nat) (cells : List (Addr × Obj)), A.handled = none → A.depth + n < recursionLimit → A.units + u < cLine → Fr s.heap L h (bindL env.kindOf binds fun _ => none) → Below A base outer s.heap →
    (Mine.hd.heap_39 w.params).In s.heap → TopH mean mg mb s.heap → News s.heap L h cells → CellsAre (bindC env.kindOf binds fun _ => none) (cellsFrom (L + 1) env.scope.names []) cells →
    wpAny (model PG w) (A.deeper env) (execs body env) Post (fun _ _ => False) { s with heap := h, toks := tk }
section
variable {oc : Value} {od : Option Addr} {osl : Array (Option Value)} {name qual : Str} {params : Arguments} {body : List Stmt} {scope : Scope} {dV kV doc pm cdv ct : Value} {an : Option Addr} {f L : Addr}
theorem fd_at (ho : (Mine.hd.heap_39 (aWorld 1).params).lookup f = some ⟨oc, od, .func (fnOf name qual params body scope dV kV doc pm an cdv ct), osl⟩) : fdAt f = fnOf name qual params body scope dV kV doc pm an cdv ct := by unfold fdAt; rw [ho]
theorem lit_at {p : Env → List Stmt → Prop} (ho : (Mine.hd.heap_39 (aWorld 1).params).lookup f = some ⟨oc, od, .func (fnOf name qual params body scope dV kV doc pm an cdv ct), osl⟩)
    (h : p (envOf qual scope L f cdv) body) : p (envAt f L) (stAt f) := by
  unfold stAt envAt
  rw [fd_at ho]
  exact h
theorem lit_atC {p : Env → List Stmt → Prop} (ho : (Mine.hd.heap_39 (aWorld 1).params).lookup f = some ⟨oc, od, .func (fnOf name qual params body scope dV kV doc pm an cdv ct), osl⟩)
    (h : p (envOfC qual scope L f cdv) body) : p (envAtC f L) (stAt f) := by
  unfold stAt envAtC
  rw [fd_at ho]
  exact h
end
end Mine
namespace Mine
noncomputable def oddHead (x : Str) : Bool := [Str.ofString "", Str.ofString "?"].any fun y => y == Txt.slice x none (some 1)
mutual
noncomputable def plainB : PyData → Bool
  | .tuple (.str x :: xs) => !oddHead x && plainAll xs
  | _ => false
noncomputable def plainAll : List PyData → Bool
  | [] => true
  | d :: r => plainB d && plainAll r
end
theorem plainAll_app : ∀ a b : List PyData, plainAll (a ++ b) = (plainAll a && plainAll b)
  | [], b => by simp [plainAll]
  | x :: a, b => by simp only [List.cons_append, plainAll, plainAll_app a b, Bool.and_assoc]
theorem plain_notTup {d : PyData} (h : isTup d = false) : plainB d = false := by
  cases d <;> simp_all [isTup, plainB]
theorem kids_tup {d : PyData} (h : isTup d = true) : d = .tuple (kids d) := by cases d <;> simp_all [isTup, kids]
theorem plain_none {d : PyData} (h : ((kids d).length : Int) = 0) : plainB d = false := by
  have h' : kids d = [] := List.eq_nil_of_length_eq_zero (by omega)
  cases d with
  | tuple xs => simp [kids] at h'; subst h'; simp [plainB]
  | _ => simp [plainB]
theorem plain_notStr {d : PyData} (h : isStr (kid d 0) = false) : plainB d = false := by
  cases d with
  | tuple xs =>
    cases xs with
    | nil => simp [plainB]
    | cons x xs =>
      simp [kid, kids] at h
      cases x <;> simp_all [isStr, plainB]
  | _ => simp [plainB]
theorem plain_odd {d : PyData} {x : Str} (h : kid d 0 = .str x) (ho : ([Str.ofString "", Str.ofString "?"].any fun y => y == Txt.slice x none (some 1)) = true) : plainB d = false := by
  cases d with
  | tuple xs =>
    cases xs with
    | nil => simp [plainB]
    | cons y xs =>
      simp [kid, kids] at h
      subst h
      have : oddHead x = true := ho
      simp [plainB, this]
  | _ => simp [plainB]
theorem plain_rest {d : PyData} {x : Str} (h : kid d 0 = .str x) (ho : ([Str.ofString "", Str.ofString "?"].any fun y => y == Txt.slice x none (some 1)) = false) : plainB d = plainAll ((kids d).drop 1) := by
  cases d with
  | tuple xs =>
    cases xs with
    | nil => simp [kid, kids] at h
    | cons y xs =>
      simp [kid, kids] at h
      subst h
      have : oddHead x = false := ho
      simp [plainB, this, kids]
  | _ => simp [kid, kids] at h
theorem sz_kids {d : PyData} (h : isTup d = true) : sz d = szAll (kids d) + 1 := by cases d <;> simp_all [isTup, kids, sz]
theorem szAll_drop : ∀ (k : Nat) (a : List PyData), szAll (a.drop k) ≤ szAll a
  | 0, a => by simp
  | k + 1, [] => by simp
  | k + 1, x :: a => by simp only [List.drop_succ_cons, szAll]; have := szAll_drop k a; omega
theorem sz_mem : ∀ {a : List PyData} {d : PyData}, d ∈ a → sz d ≤ szAll a
  | x :: a, d, h => by
    simp only [szAll]
    rcases List.mem_cons.mp h with rfl | h
    · omega
    · have := sz_mem h; omega
theorem kid_mem {d : PyData} {k : Nat} (h : k < (kids d).length) : kid d k ∈ kids d := List.mem_of_getElem? (kid_get h)
theorem sz_pos (d : PyData) : 1 ≤ sz d := by cases d <;> simp [sz]
theorem sz_kid (d : PyData) (k : Nat) : sz (kid d k) ≤ sz d := by
  rcases Nat.lt_or_ge k (kids d).length with h | h
  · have h1 := sz_mem (kid_mem h)
    cases d with
    | tuple xs => simp only [sz]; simp only [kids] at h1; omega
    | _ => simp [kids] at h
  · have : kid d k = .none := by unfold kid; rw [List.getD_eq_getElem?_getD, List.getElem?_eq_none h]; rfl
    rw [this]; simpa [sz] using sz_pos d
theorem len_kids (d : PyData) : (kids d).length ≤ sz d := by
  cases d with
  | tuple xs => simp only [kids, sz]; have := szAll_len xs; omega
  | _ => simp [kids]
theorem sz_turn {d1 : List PyData} {d0 : PyData} (h : isTup d0 = true) : szAll (d1 ++ (kids d0).drop 1) < szAll (d1 ++ [d0]) := by
  rw [szAll_app, szAll_app]
  have := szAll_drop 1 (kids d0)
  simp only [szAll, sz_kids h]; omega
end Mine
namespace Mine
theorem slot_setit_next : Slot "set_iterator" "__next__" "set_iterator.__next__" :=
  .of (owner := "set_iterator") (n := "__next__") (by rw [typeLookup_type, builtinLookup_eq_fast]; kernel_rfl) (by decide +kernel) (by decide +kernel) (by decide +kernel)
    (by first | exact .inl (by decide +kernel) | exact .inr (by decide +kernel)) (by rw [isSubtype_type]; kernel_rfl)
theorem entry_setit_next : entryFor table "set_iterator.__next__" = some Builtin.«set_iterator.__next__» := entryFor_of_tree (by kernel_rfl)
theorem entry_set_iter2 : entryFor table "set.__iter__" = some Builtin.«frozenset.__iter__» :=
  entryFor_alias (id' := "frozenset.__iter__") (by kernel_rfl) rfl (by decide +kernel) (by kernel_rfl)
theorem args_setit_next (a : Value) : argsOk "set_iterator.__next__" ⟨[a], []⟩ := by
  unfold argsOk; kernel_rfl
theorem pair_list {es : Array (Int × Value)} (h2 : es.size = 2) : ([0, 1].map fun j => (es.getD j (0, Value.none)).2) = es.toList.map (·.2) := by
  obtain ⟨l⟩ := es
  rcases l with _ | ⟨a, _ | ⟨b, _ | ⟨c, r⟩⟩⟩
  · simp at h2
  · simp at h2
  · rfl
  · simp at h2
theorem hint_slot {es : Array (Int × Value)} {pl : Array Nat} {i : Nat} (h1 : es.size ≤ 1) (hps : pl.size = es.size) (hi : i ≤ es.size) :
    ((es.toList.map (·.2))[i]?.map fun v => (v, pl.getD 0 0 + 1)) = (match es[SetTable.below pl (if i = 0 then 0 else pl.getD 0 0 + 1)]?, pl[SetTable.below pl (if i = 0 then 0 else pl.getD 0 0 + 1)]? with | some (_, x), some j => some (x, j + 1) | _, _ => none) := by
  obtain ⟨l⟩ := es
  obtain ⟨pl⟩ := pl
  simp only [List.size_toArray] at h1 hps hi
  rcases l with _ | ⟨⟨hx, x⟩, _ | ⟨b, r⟩⟩
  · rfl
  · rcases pl with _ | ⟨j, _ | ⟨j2, r2⟩⟩
    · simp at hps
    · have hi' : i = 0 ∨ i = 1 := by simp at hi; omega
      rcases hi' with rfl | rfl
      · have e : SetTable.below #[j] 0 = 0 := by simp [SetTable.below, SetTable.below.go]
        simp [e]
      · have e : SetTable.below #[j] (j + 1) = 1 := by simp [SetTable.below, SetTable.below.go]
        simp [e]
    · simp at hps
  · simp at h1
section
variable {prog : Program} {w : World} {A : Around} {E : Value → Shared → Prop} {s : Shared}
theorem hint_set {r : Addr} {Q : Bool → Shared → Prop} (hT : s.TypeIs (.ref r) "set") (h : Q false s) : wpAny (model prog w) A (Builtin.List.listLengthHint (.ref r)) Q E s := by
  unfold Builtin.List.listLengthHint
  refine wpAny_bind (wpAny_specialOf hT PySem.F.slot_set_len.lookup ?_)
  generalize hid : ("set.__len__" : String) = id0
  wp_delta
  rw [show splitId id0 = some ("set", "__len__") from by subst hid; decide +kernel]
  subst hid
  refine wpAny_bind (wpAny_isInstance (T := "set") (b := true) hT (by rw [isSubtype_type]; kernel_rfl) ?_)
  refine wpAny_ite_split (fun hab => absurd hab (by decide)) (fun _ => ?_)
  refine wpAny_ite_split (fun _ => ?_) (fun hab => absurd (by decide +kernel) hab)
  refine wpAny_bind (wpAny_typeOf hT ?_)
  exact wpAny_pure h
theorem nextSlot {I D : Addr} {oi o : Obj} {sl i ep : Nat} {es : Array (Int × Value)} {t : SetTable} {r : Option (Value × Nat)} {Q : Option Value → Shared → Prop} (hh : A.handled = none)
    (hit : s.heap.get? I = some oi) (hc : oi.cls = .type "set_iterator") (hfd : oi.data = .fields #[.int sl 0, .int i 0, .ref D, .int es.size 0, .int ep 0])
    (ho : s.heap.get? D = some o) (hd : o.data = .set es ep t) (hf : t.fits es.size = true)
    (hr : ∀ (A' : Around) (E' : Value → Shared → Prop) (Q' : Option (Value × Nat) → Shared → Prop), Q' r s → wpAny (model prog w) A' (setNext D sl i ep) Q' E' s)
    (hQ : ∀ h', (∀ b o, b ≠ I → s.heap.get? b = some o → h'.get? b = some o) → (∀ v nx, r = some (v, nx) → ∃ oi', h'.get? I = some oi' ∧ oi'.cls = .type "set_iterator" ∧ oi'.data = .fields #[.int nx 0, .int ((i + 1 : Nat) : Int) 0, .ref D, .int es.size 0, .int ep 0]) → Q (r.map (·.1)) { s with heap := h' }) :
    wpAny (model prog w) A (pyNext (.ref I)) Q E s := by
  have hT : s.TypeIs (.ref I) "set_iterator" := ⟨oi, hit, hc⟩
  unfold pyNext
  refine wpAny_bind (wpAny_attempt (wpAny_callSpecial?_slot (name := Str.ofString "__next__") hT slot_setit_next
    (wpAny_call_entry slot_setit_next hT entry_setit_next ?_ (args_setit_next _))))
  unfold Builtin.«set_iterator.__next__»
  refine wpAny_bind (wpAny_pure ?_)
  refine wpAny_bind (wpAny_fieldsOf hit hfd ?_)
  dsimp only
  refine wpAny_bind (wpAny_setEntries_of ho hd hf ?_)
  rw [if_neg (by simp)]
  refine wpAny_bind (hr _ _ _ ?_)
  cases r with
  | none =>
    dsimp only
    refine wpAny_bind (wpAny_setField hit hfd (by simp) ?_)
    show wpAny _ _ (newExc (.type "StopIteration") [] >>= _) _ _ _
    refine wpAny_bind ?_
    simp only [newExc, newTuple]
    refine wpAny_bind (wpAny_newObj_type ?_ (by size_fits))
    refine wpAny_bind (m := firstArgMember _ _) (wpAny_of_eq (a := Value.none) (by first | rfl | (simp only [firstArgMember]; rfl)) ?_)
    refine wpAny_newObj_type ?_ (by size_fits)
    simp only [raiseNew]
    refine wpAny_bind (wpAny_handled ?_)
    rw [show A.in1.handled = none from hh]
    refine wpAny_bind (wpAny_pure (wpAny_throw ?_))
    refine wpAny_bind (wpAny_isInstance (T := "StopIteration") (b := true) ⟨_, Heap.get?_push_size _ rfl, rfl⟩ isSubtype_stop ?_)
    exact wpAny_pure (hQ _ (((Heap.SameBut.update ..).extBut.push _).push _) (fun _ _ e => by cases e))
  | some q =>
    obtain ⟨v, nx⟩ := q
    dsimp only
    refine wpAny_bind (wpAny_setField hit hfd (by simp) ?_)
    have hit1 := Heap.get?_update_self (Obj.mapFields (·.setIfInBounds 0 (rawInt (nx : Int)))) hit (Obj.isFreed_of_fields (Obj.data_mapFields hfd _))
    have hfd1 := Obj.data_mapFields hfd (·.setIfInBounds 0 (rawInt (nx : Int)))
    refine wpAny_bind (wpAny_setField hit1 hfd1 (by simp) ?_)
    refine wpAny_pure ⟨_, rfl, wpAny_pure (hQ _ ?_ ?_)⟩
    · intro b o' hb e
      exact (Heap.get?_update_other _ _ (Ne.symm hb)).trans ((Heap.get?_update_other _ _ (Ne.symm hb)).trans e)
    · intro v' nx' e
      cases e
      refine ⟨_, Heap.get?_update_self _ hit1 (Obj.isFreed_of_fields (Obj.data_mapFields hfd1 _)), ?_, ?_⟩
      · exact (Obj.cls_mapFields ..).trans ((Obj.cls_mapFields ..).trans hc)
      · rw [Obj.data_mapFields hfd1]; simp [rawInt]
theorem nextDrawn {I D T : Addr} {oi o ot : Obj} {i ep nt : Nat} {es : Array (Int × Value)} {t : SetTable} {ps : Array Value} {Q : Option Value → Shared → Prop} (hh : A.handled = none)
    (hit : s.heap.get? I = some oi) (hc : oi.cls = .type "set_iterator") (hfd : oi.data = .fields #[.ref T, .int i 0, .ref D, .int es.size 0, .int ep 0])
    (ho : s.heap.get? D = some o) (hd : o.data = .set es ep t) (hf : t.fits es.size = true) (hto : s.heap.get? T = some ot) (htd : ot.data = .seq ps nt) {r : Option Value}
    (hr : match ps[i]? with | none => r = none | some p => ∃ (j : Nat) (e : Int × Value), p = .int j 0 ∧ es[j]? = some e ∧ r = some e.2)
    (hQ : ∀ h', (∀ b o, b ≠ I → s.heap.get? b = some o → h'.get? b = some o) → (∀ v, r = some v → ∃ oi', h'.get? I = some oi' ∧ oi'.cls = .type "set_iterator" ∧ oi'.data = .fields #[.ref T, .int ((i + 1 : Nat) : Int) 0, .ref D, .int es.size 0, .int ep 0]) → Q r { s with heap := h' }) :
    wpAny (model prog w) A (pyNext (.ref I)) Q E s := by
  have hT : s.TypeIs (.ref I) "set_iterator" := ⟨oi, hit, hc⟩
  unfold pyNext
  refine wpAny_bind (wpAny_attempt (wpAny_callSpecial?_slot (name := Str.ofString "__next__") hT slot_setit_next
    (wpAny_call_entry slot_setit_next hT entry_setit_next ?_ (args_setit_next _))))
  unfold Builtin.«set_iterator.__next__»
  refine wpAny_bind (wpAny_pure ?_)
  refine wpAny_bind (wpAny_fieldsOf hit hfd ?_)
  dsimp only
  refine wpAny_bind (wpAny_setEntries_of ho hd hf ?_)
  rw [if_neg (by simp)]
  refine wpAny_bind (wpAny_seqItems hto htd ?_)
  dsimp only
  simp only [Int.toNat_natCast]
  cases hp : ps[i]? with
  | none =>
    rw [hp] at hr
    dsimp only at hr ⊢
    subst hr
    refine wpAny_bind (wpAny_setField hit hfd (by simp) ?_)
    have hit1 := Heap.get?_update_self (Obj.mapFields (·.setIfInBounds 0 (rawInt 0))) hit (Obj.isFreed_of_fields (Obj.data_mapFields hfd _))
    have hfd1 := Obj.data_mapFields hfd (·.setIfInBounds 0 (rawInt 0))
    refine wpAny_bind (wpAny_setField hit1 hfd1 (by simp) ?_)
    show wpAny _ _ (newExc (.type "StopIteration") [] >>= _) _ _ _
    refine wpAny_bind ?_
    simp only [newExc, newTuple]
    refine wpAny_bind (wpAny_newObj_type ?_ (by size_fits))
    refine wpAny_bind (m := firstArgMember _ _) (wpAny_of_eq (a := Value.none) (by first | rfl | (simp only [firstArgMember]; rfl)) ?_)
    refine wpAny_newObj_type ?_ (by size_fits)
    simp only [raiseNew]
    refine wpAny_bind (wpAny_handled ?_)
    rw [show A.in1.handled = none from hh]
    refine wpAny_bind (wpAny_pure (wpAny_throw ?_))
    refine wpAny_bind (wpAny_isInstance (T := "StopIteration") (b := true) ⟨_, Heap.get?_push_size _ rfl, rfl⟩ isSubtype_stop ?_)
    refine wpAny_pure (hQ _ ?_ (fun _ e => by cases e))
    intro b o' hb e
    exact Heap.get?_push_of_some _ (Heap.get?_push_of_some _ ((Heap.get?_update_other _ _ (Ne.symm hb)).trans ((Heap.get?_update_other _ _ (Ne.symm hb)).trans e)))
  | some p =>
    rw [hp] at hr
    obtain ⟨j, e, rfl, he, rfl⟩ := hr
    obtain ⟨hx, v⟩ := e
    dsimp only
    refine wpAny_bind ?_
    unfold setNextDrawn
    refine wpAny_bind (wpAny_setState_of ho hd hf ?_)
    dsimp only
    rw [if_neg (by simp)]
    simp only [Int.toNat_natCast, he]
    refine wpAny_bind (wpAny_pure ?_)
    refine wpAny_pure ?_
    refine wpAny_bind (wpAny_setField hit hfd (by simp) ?_)
    refine wpAny_pure ⟨_, rfl, wpAny_pure (hQ _ ?_ ?_)⟩
    · intro b o' hb e
      exact (Heap.get?_update_other _ _ (Ne.symm hb)).trans e
    · intro v' e
      refine ⟨_, Heap.get?_update_self _ hit (Obj.isFreed_of_fields (Obj.data_mapFields hfd _)), ?_, ?_⟩
      · exact (Obj.cls_mapFields ..).trans hc
      · rw [Obj.data_mapFields hfd]; simp [rawInt]
theorem slot_setit_iter : Slot "set_iterator" "__iter__" "set_iterator.__iter__" :=
  .of (owner := "set_iterator") (n := "__iter__") (by rw [typeLookup_type, builtinLookup_eq_fast]; kernel_rfl) (by decide +kernel) (by decide +kernel) (by decide +kernel)
    (by first | exact .inl (by decide +kernel) | exact .inr (by decide +kernel)) (by rw [isSubtype_type]; kernel_rfl)
theorem entry_setit_iter : entryFor table "set_iterator.__iter__" = some Builtin.«dict_keyiterator.__iter__» :=
  entryFor_alias (id' := "dict_keyiterator.__iter__") (by kernel_rfl) rfl (by decide +kernel) (by kernel_rfl)
theorem args_setit_iter (a : Value) : argsOk "set_iterator.__iter__" ⟨[a], []⟩ := by
  unfold argsOk; kernel_rfl
theorem args_set_iter2 (a : Value) : argsOk "set.__iter__" ⟨[a], []⟩ := PySem.F.args_set_iter_1 a
theorem pyIter_setit {I : Addr} {Q : Value → Shared → Prop} (hT : s.TypeIs (.ref I) "set_iterator") (h : Q (.ref I) s) : wpAny (model prog w) A (pyIter (.ref I)) Q E s := by
  refine wpAny_pyIter_slot hT slot_setit_iter (wpAny_call_entry slot_setit_iter hT entry_setit_iter ?_ (args_setit_iter _))
  show wpAny _ _ (ret (.ref I)) _ _ s
  exact wpAny_pure ⟨_, rfl, "set_iterator", _, hT, slot_setit_next.lookup, h⟩
noncomputable def StS (D I : Addr) (o : Obj) (n ep : Nat) (sl : Nat → Nat) (i : Nat) (h : Heap) : Prop :=
  h.get? D = some o ∧ ∃ oi, h.get? I = some oi ∧ oi.cls = .type "set_iterator" ∧ oi.data = .fields #[.int (sl i) 0, .int i 0, .ref D, .int n 0, .int ep 0]
noncomputable def StD (D I T : Addr) (o ot : Obj) (n ep : Nat) (i : Nat) (h : Heap) : Prop :=
  h.get? D = some o ∧ h.get? T = some ot ∧ ∃ oi, h.get? I = some oi ∧ oi.cls = .type "set_iterator" ∧ oi.data = .fields #[.ref T, .int i 0, .ref D, .int n 0, .int ep 0]
theorem walkSlot (hh : A.handled = none) {I D : Addr} (hne : D ≠ I) {o : Obj} {ep : Nat} {es : Array (Int × Value)} {t : SetTable} (hd : o.data = .set es ep t) (hf : t.fits es.size = true) {vs : List Value} {sl : Nat → Nat} (hl : vs.length = es.size)
    (hr : ∀ (i : Nat) (s : Shared) (A' : Around) (E' : Value → Shared → Prop) (Q' : Option (Value × Nat) → Shared → Prop), s.heap.get? D = some o → i ≤ es.size → Q' (vs[i]?.map fun v => (v, sl (i + 1))) s → wpAny (model prog w) A' (setNext D (sl i) i ep) Q' E' s) :
    Walks prog w A I [I, D] [I] es.size (fun i v => vs[i]? = some v) (StS D I o es.size ep sl) where
  sub := fun b hb => by simp at hb; simp [hb]
  frame := fun _ _ _ st hk => let ⟨a, oi, b, c⟩ := st; ⟨hk D (by simp) _ a, oi, hk I (by simp) _ b, c⟩
  item := fun i s Q E hi st hQ => by
    obtain ⟨hD, oi, hI, hc, hfd⟩ := st
    have hv : vs[i]? = some (vs[i]'(by omega)) := by simp [hl, hi]
    refine nextSlot hh hI hc hfd hD hd hf (fun A' E' Q' hq => hr i s A' E' Q' hD (Nat.le_of_lt hi) hq) fun h' hk hn => ?_
    obtain ⟨oi', a, b, c⟩ := hn _ _ (by rw [hv]; rfl)
    have e : (vs[i]?.map fun v => (v, sl (i + 1))).map (·.1) = some (vs[i]'(by omega)) := by rw [hv]; rfl
    rw [e]
    exact hQ _ h' s.toks hv ⟨hk _ _ hne hD, oi', a, b, c⟩ fun b o hb e => hk b o (fun h => hb (by simp [h])) e
  done := fun s Q E st hQ => by
    obtain ⟨hD, oi, hI, hc, hfd⟩ := st
    have hv : vs[es.size]? = none := by simp [hl]
    refine nextSlot hh hI hc hfd hD hd hf (fun A' E' Q' hq => hr es.size s A' E' Q' hD (Nat.le_refl _) hq) fun h' hk hn => ?_
    have e : (vs[es.size]?.map fun v => (v, sl (es.size + 1))).map (·.1) = none := by rw [hv]; rfl
    rw [e]
    exact hQ h' s.toks fun b o hb e => hk b o (fun h => hb (by simp [h])) e
  self := fun _ _ _ _ st hQ => let ⟨_, oi, hI, hc, _⟩ := st; pyIter_setit ⟨oi, hI, hc⟩ hQ
theorem walkDrawn (hh : A.handled = none) {I D T : Addr} (hne : D ≠ I) (hnT : T ≠ I) {o ot : Obj} {ep nt : Nat} {es : Array (Int × Value)} {t : SetTable} {ps : Array Value} (hd : o.data = .set es ep t) (hf : t.fits es.size = true) (htd : ot.data = .seq ps nt)
    {vs : List Value} (hl : vs.length = es.size) (hp : ps.size = es.size) (hr : ∀ (i : Nat) (p : Value), ps[i]? = some p → ∃ (j : Nat) (e : Int × Value), p = .int j 0 ∧ es[j]? = some e ∧ vs[i]? = some e.2) :
    Walks prog w A I [I, D, T] [I] es.size (fun i v => vs[i]? = some v) (StD D I T o ot es.size ep) where
  sub := fun b hb => by simp at hb; simp [hb]
  frame := fun _ _ _ st hk => let ⟨a, a', oi, b, c⟩ := st; ⟨hk D (by simp) _ a, hk T (by simp) _ a', oi, hk I (by simp) _ b, c⟩
  item := fun i s Q E hi st hQ => by
    obtain ⟨hD, hT, oi, hI, hc, hfd⟩ := st
    have hv : vs[i]? = some (vs[i]'(by omega)) := by simp [hl, hi]
    refine nextDrawn hh hI hc hfd hD hd hf hT htd (r := some (vs[i]'(by omega))) ?_ fun h' hk hn => ?_
    · have hpi : ps[i]? = some (ps[i]'(by omega)) := by simp [hp, hi]
      rw [hpi]
      obtain ⟨j, e, a, b, c⟩ := hr i _ hpi
      exact ⟨j, e, a, b, hv.symm.trans c⟩
    · obtain ⟨oi', a, b, c⟩ := hn _ rfl
      exact hQ _ h' s.toks hv ⟨hk _ _ hne hD, hk _ _ hnT hT, oi', a, b, c⟩ fun b o hb e => hk b o (fun h => hb (by simp [h])) e
  done := fun s Q E st hQ => by
    obtain ⟨hD, hT, oi, hI, hc, hfd⟩ := st
    have hpi : ps[es.size]? = none := by simp [hp]
    refine nextDrawn hh hI hc hfd hD hd hf hT htd (r := none) (by rw [hpi]) fun h' hk hn => ?_
    exact hQ h' s.toks fun b o hb e => hk b o (fun h => hb (by simp [h])) e
  self := fun _ _ _ _ st hQ => let ⟨_, _, oi, hI, hc, _⟩ := st; pyIter_setit ⟨oi, hI, hc⟩ hQ
theorem wpChoose {src : Source} {n : Nat} {Q : Nat → Shared → Prop} (hn : n ≠ 0) (h : ∀ r dr, r < n → Q r { s with drawn := dr }) : wpAny (model prog w) A (choose src n) Q E s := fun Γ p _ => by
  show Sem.wp (model prog w) Γ (.choose src n .pure) _ _ p s
  rw [Sem.wp_choose]
  exact ⟨hn, h _ _ (Nat.mod_lt _ (Nat.pos_of_ne_zero hn))⟩
theorem setDrawn_of {D : Addr} {o : Obj} {ep : Nat} {es : Array (Int × Value)} {t : SetTable} {Q : Bool → Shared → Prop} (ho : s.heap.get? D = some o) (hd : o.data = .set es ep t) (hf : t.fits es.size = true)
    (h : Q (!w.params.followText "set-order" && (!t.plain && decide (es.size > 1))) s) : wpAny (model prog w) A (setDrawn D) Q E s := by
  unfold setDrawn setsByText
  refine wpAny_bind (wpAny_setState_of ho hd hf ?_)
  dsimp only
  refine wpAny_bind (wpAny_bind (wpAny_askSetting (wpAny_pure ?_)))
  exact wpAny_pure h
theorem setNext_text {D : Addr} {o : Obj} {ep i sl : Nat} {es : Array (Int × Value)} {t : SetTable} {Q : Option (Value × Nat) → Shared → Prop} (hb : w.params.followText "set-order" = true) (ho : s.heap.get? D = some o) (hd : o.data = .set es ep t) (hf : t.fits es.size = true)
    (h : Q ((pickOrder (w.params.setOrder D ep) es)[i]?.map fun e => (e.2, sl)) s) : wpAny (model prog w) A (setNext D sl i ep) Q E s := by
  unfold setNext setWalk setsByText
  refine wpAny_bind (wpAny_setState_of ho hd hf ?_)
  dsimp only
  refine wpAny_bind (wpAny_bind (wpAny_askSetting (wpAny_pure ?_)))
  rw [show (model prog w).w.params.followText "set-order" = true from hb]
  simp only [if_true, bne_self_eq_false, Bool.false_eq_true, if_false]
  refine wpAny_bind (wpAny_bind (wpAny_setState_of ho hd hf ?_))
  dsimp only
  refine wpAny_bind (wpAny_bind (wpAny_askSetting (wpAny_pure ?_)))
  rw [show (model prog w).w.params.followText "set-order" = true from hb]
  simp only [if_true]
  refine wpAny_bind (wpAny_askSetting (wpAny_pure ?_))
  exact wpAny_pure h
theorem setNext_led {D : Addr} {o : Obj} {ep i sl : Nat} {es : Array (Int × Value)} {t : SetTable} {Q : Option (Value × Nat) → Shared → Prop} (hb : w.params.followText "set-order" = false) (hz : es.size ≤ 1) (hl : t.led = true) (ho : s.heap.get? D = some o) (hd : o.data = .set es ep t) (hf : t.fits es.size = true)
    (h : Q (match es[SetTable.below t.place sl]?, t.place[SetTable.below t.place sl]? with | some (_, x), some j => some (x, j + 1) | _, _ => none) s) : wpAny (model prog w) A (setNext D sl i ep) Q E s := by
  unfold setNext setsByText
  refine wpAny_bind (wpAny_setState_of ho hd hf ?_)
  dsimp only
  refine wpAny_bind (wpAny_bind (wpAny_askSetting (wpAny_pure ?_)))
  rw [show (model prog w).w.params.followText "set-order" = false from hb]
  simp only [Bool.false_eq_true, if_false]
  have e1 : (!t.plain && decide (es.size > 1)) = false := by simp; omega
  show wpAny _ _ (if (!t.plain && decide (es.size > 1)) = true then _ else _) _ _ _
  rw [e1, if_neg Bool.false_ne_true]
  show wpAny _ _ ((if (!t.led && !es.isEmpty) = true then _ else _) >>= _) _ _ _
  rw [hl]
  exact wpAny_bind (wpAny_pure (wpAny_pure h))
theorem pick_perm {α : Type} (nx : Nat → Nat) (es : Array α) (hz : es.size ≤ 2) : (pickOrder nx es).toList.Perm es.toList := by
  obtain ⟨l⟩ := es
  simp only [List.size_toArray] at hz
  match l, hz with
  | [], _ => simp [pickOrder, pickOrder.go]
  | [a], _ => simp [pickOrder, pickOrder.go, Nat.mod_one]
  | [a, b], _ =>
    have h2 : nx 0 % 2 = 0 ∨ nx 0 % 2 = 1 := by omega
    rcases h2 with h2 | h2
    · simp [pickOrder, pickOrder.go, Nat.mod_one, h2]
    · simp [pickOrder, pickOrder.go, Nat.mod_one, h2]
      exact List.Perm.swap ..
theorem setEnd {D : Addr} {o : Obj} {ep : Nat} {es : Array (Int × Value)} {t : SetTable} {first : Value} {A' : Around} {Q : Value → Shared → Prop} (ho : s.heap.get? D = some o) (hd : o.data = .set es ep t) (hf : t.fits es.size = true) {h0 : Heap} {dr : Drawn}
    (ho' : h0.get? D = some o)
    (h : Q (.ref h0.objs.size) { s with heap := h0.push { cls := .type "set_iterator", dict := none, data := .fields #[first, .int 0 0, .ref D, .int es.size 0, .int ep 0] }, drawn := dr }) :
    wpAny (model prog w) A' (do let e ← setEpoch D; let x ← newFields "set_iterator" [first, rawInt 0, .ref D, rawInt es.size, rawInt e]; ret x)
      (fun fin s' => ∃ r, fin = .done (.ret r) ∧ ∃ T' r', s'.TypeIs r T' ∧ typeLookup (.type T') "__next__" = pure (some r') ∧ Q r s') E { s with heap := h0, drawn := dr } := by
  refine wpAny_bind (wpAny_setEpoch_of (s := { s with heap := h0, drawn := dr }) ho' hd hf ?_)
  refine wpAny_bind ?_
  unfold newFields
  refine wpAny_newObj_type (wpAny_pure ⟨_, rfl, "set_iterator", _, ⟨_, Heap.get?_push_size _ rfl, rfl⟩, slot_setit_next.lookup, ?_⟩) (by size_fits)
  simpa [rawInt] using h
theorem set_pyIter {D : Addr} {o : Obj} {ep : Nat} {es : Array (Int × Value)} {t : SetTable} {Q : Value → Shared → Prop} (ho : s.heap.get? D = some o) (hex : o.ExactSet) (hd : o.data = .set es ep t) (hf : t.fits es.size = true) (hz : es.size ≤ 2)
    (hled : w.params.followText "set-order" = true ∨ t.led = true) (hpl : es.size = 2 → t.plain = false)
    (h : ∀ (vs : List Value) (I : Addr) (h' : Heap) (dr : Drawn) (fp : List Addr) (St : Nat → Heap → Prop), vs.Perm (es.toList.map (·.2)) → (∀ A' : Around, A'.handled = none → Walks prog w A' I fp [I] es.size (fun i v => vs[i]? = some v) St) → St 0 h' →
      (∀ b o, s.heap.get? b = some o → h'.get? b = some o) → (∀ b ∈ fp, b = D ∨ s.heap.objs.size ≤ b) → s.heap.objs.size ≤ I → Q (.ref I) { s with heap := h', drawn := dr }) :
    wpAny (model prog w) A (pyIter (.ref D)) Q E s := by
  have hT : s.TypeIs (.ref D) "set" := ⟨o, ho, hex.1⟩
  have hlt : D < s.heap.objs.size := Heap.lt_size ho
  refine wpAny_pyIter_slot hT PySem.F.slot_set_iter (wpAny_call_entry PySem.F.slot_set_iter hT entry_set_iter2 ?_ (PySem.F.args_set_iter_1 _))
  unfold Builtin.«frozenset.__iter__»
  refine wpAny_bind (m := Builtin.Frozenset.slot0 _ _) (wpAny_pure ?_)
  refine wpAny_bind (m := Builtin.Frozenset.sizeOf _) (wpAny_bind (wpAny_setEntries_of ho hd hf (wpAny_pure ?_)))
  refine wpAny_bind (setDrawn_of ho hd hf ?_)
  have slotCase : ∀ (vs : List Value) (sl : Nat → Nat), sl 0 = 0 → vs.length = es.size → vs.Perm (es.toList.map (·.2)) →
      (∀ (i : Nat) (s : Shared) (A' : Around) (E' : Value → Shared → Prop) (Q' : Option (Value × Nat) → Shared → Prop), s.heap.get? D = some o → i ≤ es.size → Q' (vs[i]?.map fun v => (v, sl (i + 1))) s → wpAny (model prog w) A' (setNext D (sl i) i ep) Q' E' s) →
      wpAny (model prog w) A.in1 (do let e ← setEpoch D; let x ← newFields "set_iterator" [rawInt 0, rawInt 0, .ref D, rawInt es.size, rawInt e]; ret x)
      (fun fin s' => ∃ r, fin = .done (.ret r) ∧ ∃ T' r', s'.TypeIs r T' ∧ typeLookup (.type T') "__next__" = pure (some r') ∧ Q r s') E s := by
    intro vs sl h0 hl hp hr
    refine setEnd (s := s) (h0 := s.heap) (dr := s.drawn) ho hd hf ho ?_
    refine h vs s.heap.objs.size _ s.drawn _ _ hp (fun A' hA => walkSlot hA (Nat.ne_of_lt hlt) hd hf hl hr) ⟨Heap.get?_push_of_some _ ho, _, Heap.get?_push_size _ rfl, rfl, by rw [h0]; rfl⟩ (fun b o e => Heap.get?_push_of_some _ e) ?_ (Nat.le_refl _)
    intro b hb
    simp only [List.mem_cons, List.not_mem_nil, or_false] at hb
    rcases hb with rfl | rfl
    · exact .inr (Nat.le_refl _)
    · exact .inl rfl
  cases hb : w.params.followText "set-order" with
  | true =>
    simp only [Bool.not_true, Bool.false_and, Bool.false_eq_true, if_false]
    refine wpAny_bind (wpAny_pure ?_)
    have hp := pick_perm (w.params.setOrder D ep) es hz
    refine slotCase ((pickOrder (w.params.setOrder D ep) es).toList.map (·.2)) (fun _ => 0) rfl (by rw [List.length_map, hp.length_eq, Array.length_toList]) (hp.map _) ?_
    intro i s' A' E' Q' ho' _ hq
    refine setNext_text hb ho' hd hf ?_
    rw [List.getElem?_map, Array.getElem?_toList] at hq
    rw [Option.map_map] at hq
    exact hq
  | false =>
    have hl : t.led = true := hled.resolve_left (by rw [hb]; exact Bool.false_ne_true)
    have hps : t.place.size = es.size := by
      simp only [SetTable.fits, Bool.and_eq_true, beq_iff_eq] at hf; exact hf.1
    by_cases h2 : es.size = 2
    · rw [hpl h2]
      have e1 : (!false && (!false && decide (es.size > 1))) = true := by simp; omega
      rw [e1]
      simp only [if_true]
      have key : ∀ (ps : List Nat) (dr : Drawn), ps.Perm [0, 1] → wpAny (model prog w) A.in1 (do
            let first ← newTuple (ps.map fun (i : Nat) => rawInt i)
            let e ← setEpoch D; let x ← newFields "set_iterator" [first, rawInt 0, .ref D, rawInt es.size, rawInt e]; ret x)
          (fun fin s' => ∃ r, fin = .done (.ret r) ∧ ∃ T' r', s'.TypeIs r T' ∧ typeLookup (.type T') "__next__" = pure (some r') ∧ Q r s') E { s with drawn := dr } := by
        intro ps dr pp
        have hlp : ps.length = 2 := pp.length_eq
        refine wpAny_bind (wpAny_newTuple ?_ (by rw [List.length_map, hlp]; decide))
        refine setEnd (s := s) (h0 := _) (dr := dr) ho hd hf (Heap.get?_push_of_some _ ho) ?_
        have hlt2 : ∀ j ∈ ps, j < es.size := fun j hj => by have := pp.mem_iff.mp hj; simp at this; omega
        have hvs : ∃ vs : List Value, vs = ps.map fun j => (es.getD j (0, Value.none)).2 := ⟨_, rfl⟩
        obtain ⟨vs, hvs⟩ := hvs
        refine h vs _ _ dr [_, D, s.heap.objs.size] _ ?_ (fun A' hA => walkDrawn (T := s.heap.objs.size) (ot := { cls := .type "tuple", data := .seq (ps.map fun (i : Nat) => rawInt (i : Int)).toArray }) hA ?_ ?_ (ps := (ps.map fun (i : Nat) => rawInt (i : Int)).toArray) (nt := 0) hd hf rfl (by rw [hvs, List.length_map, hlp, h2]) (by simp [hlp, h2]) ?_) ?_ ?_ ?_ ?_
        · have q := pp.map fun j => (es.getD j (0, Value.none)).2
          rw [hvs]
          exact q.trans (List.Perm.of_eq (pair_list h2))
        · rw [Heap.size_push]; exact Nat.ne_of_lt (Nat.lt_succ_of_lt hlt)
        · rw [Heap.size_push]; exact Nat.ne_of_lt (Nat.lt_succ_self _)
        · intro i p hp
          simp only [List.getElem?_toArray, List.getElem?_map, Option.map_eq_some_iff] at hp
          obtain ⟨j, hj, rfl⟩ := hp
          have hj' := hlt2 j (List.mem_of_getElem? hj)
          refine ⟨j, es[j], rfl, by simp [hj'], ?_⟩
          rw [hvs, List.getElem?_map, hj]
          simp [Array.getD, hj']
        · exact ⟨Heap.get?_push_of_some _ (Heap.get?_push_of_some _ ho), Heap.get?_push_of_some _ (Heap.get?_push_size _ rfl), _, Heap.get?_push_size _ rfl, rfl, rfl⟩
        · exact fun b o e => Heap.get?_push_of_some _ (Heap.get?_push_of_some _ e)
        · intro b hb
          simp only [List.mem_cons, List.not_mem_nil, or_false] at hb
          rcases hb with rfl | rfl | rfl
          · rw [Heap.size_push]; exact .inr (Nat.le_succ _)
          · exact .inl rfl
          · exact .inr (Nat.le_refl _)
        · rw [Heap.size_push]; exact Nat.le_succ _
      rw [h2]
      rw [h2] at key
      rw [show List.range 2 = [0, 1] from rfl]
      refine wpAny_bind ?_
      show wpAny _ _ (choose .order 2 >>= _) _ _ s
      refine wpAny_bind (wpChoose (by decide) fun r dr hr => ?_)
      have hr' : r = 0 ∨ r = 1 := by omega
      rcases hr' with rfl | rfl
      · show wpAny _ _ (drawOrder 1 [1] >>= _) _ _ _
        refine wpAny_bind ?_
        show wpAny _ _ (choose .order 1 >>= _) _ _ _
        refine wpAny_bind (wpChoose (by decide) fun r2 dr2 hr2 => ?_)
        obtain rfl : r2 = 0 := by omega
        show wpAny _ _ (drawOrder 0 [] >>= _) _ _ _
        refine wpAny_bind (wpAny_pure (wpAny_pure (wpAny_pure ?_)))
        exact key [0, 1] dr2 (List.Perm.refl _)
      · show wpAny _ _ (drawOrder 1 [0] >>= _) _ _ _
        refine wpAny_bind ?_
        show wpAny _ _ (choose .order 1 >>= _) _ _ _
        refine wpAny_bind (wpChoose (by decide) fun r2 dr2 hr2 => ?_)
        obtain rfl : r2 = 0 := by omega
        show wpAny _ _ (drawOrder 0 [] >>= _) _ _ _
        refine wpAny_bind (wpAny_pure (wpAny_pure (wpAny_pure ?_)))
        exact key [1, 0] dr2 (List.Perm.swap ..)
    · have h1 : es.size ≤ 1 := by omega
      have e1 : (!false && (!t.plain && decide (es.size > 1))) = false := by simp; omega
      rw [e1]
      simp only [Bool.false_eq_true, if_false]
      refine wpAny_bind (wpAny_pure ?_)
      refine slotCase (es.toList.map (·.2)) (fun i => if i = 0 then 0 else t.place.getD 0 0 + 1) rfl (by simp) (List.Perm.refl _) ?_
      intro i s' A' E' Q' ho' hi hq
      refine setNext_led hb h1 hl ho' hd hf ?_
      rw [← hint_slot h1 hps hi]
      simpa using hq
end
end Mine
namespace Mine
section
variable {prog : Program} {w : World} {A : Around} {E : Value → Shared → Prop} {s : Shared}
theorem set_extend {D : Addr} {o : Obj} {ep : Nat} {es : Array (Int × Value)} {t : SetTable} {R : Result → Shared → Prop} (hh : A.handled = none) (ho : s.heap.get? D = some o) (hex : o.ExactSet) (hd : o.data = .set es ep t) (hf : t.fits es.size = true) (hz : es.size ≤ 2)
    (hled : w.params.followText "set-order" = true ∨ t.led = true) (hpl : es.size = 2 → t.plain = false) (S : Addr) (hSD : S ≠ D) (res : Value) (c₀ : Nat) (hS : s.heap.get? S = some { cls := .type "list", data := .seq #[] c₀ })
    (hR : ∀ vs h' dr tk acc' c', vs.Perm (es.toList.map (·.2)) → (∀ b o, b ≠ S → s.heap.get? b = some o → h'.get? b = some o) → h'.get? S = some { cls := .type "list", dict := none, data := .seq acc' c', slots := #[] } → acc'.toList = vs → R (.ok (.ret res)) { s with heap := h', drawn := dr, toks := tk }) :
    wpAny (model prog w) A.in1 (Builtin.List.listExtendWith (.ref S) (.ref D) res)
      (fun fin s' => match fin with | .done f => R (.ok f) s' | .again c' => c'.quiet = true ∧ codeAny (model prog w) A c' R s') (fun e s' => R (.error e) s') s := by
  have hT : s.TypeIs (.ref D) "set" := ⟨o, ho, hex.1⟩
  unfold Builtin.List.listExtendWith
  refine wpAny_bind (wpAny_typeOf (T := "set") hT ?_)
  have h1 : Builtin.List.listSameRef (.ref S) (.ref D) = false := by simp [Builtin.List.listSameRef, hSD]
  have hl : (Value.type "set" == Value.type "list") = false := by decide
  have ht : (Value.type "set" == Value.type "tuple") = false := by decide
  simp only [h1, hl, ht, Bool.or_false, Bool.false_eq_true, if_false]
  refine wpAny_bind (set_pyIter ho hex hd hf hz hled hpl fun vs I h1 dr fp St hp hW hst hk hfp hI => ?_)
  have hS₁ := hk _ _ hS
  have hSlt := Heap.lt_size hS
  have hSI : S ≠ I := Nat.ne_of_lt (Nat.lt_of_lt_of_le hSlt hI)
  have hSf : S ∉ fp := fun hm => (hfp S hm).elim hSD fun h => absurd hSlt (Nat.not_lt.mpr h)
  have W := hW A.in1 hh
  have key : ∀ (h : Heap) (c₁ tk : Nat), St 0 h → (∀ b o, b ≠ S → s.heap.get? b = some o → h.get? b = some o) →
      h.get? S = some { cls := .type "list", data := .seq #[] c₁ } → codeAny (model prog w) A (.builtin "list.extend.loop" ⟨[.ref S, .ref I, res], []⟩) R { s with heap := h, drawn := dr, toks := tk } := by
    intro h c₁ tk hst hk' hS₁
    refine codeAny_extend_loopS W.toS (by rw [sizeLine_eq]; omega) S hSf res es.size 0 _ #[] c₁ rfl (Nat.zero_le _) hst hS₁ (ItemsOf.nil _) fun s' acc' c' hm hS' hacc => ?_
    rw [Moved.eq_with hm]
    refine hR vs s'.heap dr s'.toks acc' c' hp (fun b o hb e => hm.heap b o (fun hmem => ?_) (hk' b o hb e)) hS' ?_
    · rcases List.mem_cons.mp hmem with e' | hmem
      · exact hb e'
      · exact absurd (Heap.lt_size e) (by rw [List.mem_singleton.mp hmem]; exact Nat.not_lt.mpr hI)
    · have hvl : vs.length = es.size := by rw [hp.length_eq, List.length_map, Array.length_toList]
      apply List.ext_getElem
      · rw [Array.length_toList, hacc.1, hvl]
      · intro j h1 h2
        have q : vs[j]? = some _ := hacc.2 j _ (by rw [← Array.getElem?_toList]; exact List.getElem?_eq_getElem h1)
        rw [List.getElem?_eq_getElem h2] at q
        simpa using q.symm
  refine wpAny_bind (wpAny_holding (hint_set ⟨o, hk _ _ ho, hex.1⟩ ?_))
  refine wpAny_ite_split (fun _ => ?_) (fun _ => wpAny_pure ⟨plainId_quiet PySem.F.plain_extend_loop _, key _ c₀ _ hst (fun b o _ e => hk _ _ e) hS₁⟩)
  refine wpAny_bind (wpAny_rule ?_)
  refine wpAny_bind ?_
  show wpAny _ _ (updateSeq S (·.push .none) >>= fun _ => updateSeq S (·.pop)) _ _ _
  refine wpAny_bind (wpAny_updateSeq hS₁ rfl ?_)
  have hS₂ := Heap.get?_update_self (Obj.mapSeq (·.push Value.none)) hS₁ rfl
  refine wpAny_updateSeq (hz := by seq_fits) hS₂ rfl ?_
  have hS₃ := Heap.get?_update_self (Obj.mapSeq (·.pop)) hS₂ rfl
  refine wpAny_pure ⟨plainId_quiet PySem.F.plain_extend_loop _, key _ _ _ ?_ (fun b o hb e => ?_) hS₃⟩
  · refine W.frame 0 _ _ hst fun b hb o e => ?_
    have hbS : b ≠ S := fun h => hSf (h ▸ hb)
    exact (Heap.get?_update_other _ _ (Ne.symm hbS)).trans ((Heap.get?_update_other _ _ (Ne.symm hbS)).trans e)
  · exact (Heap.get?_update_other _ _ (Ne.symm hb)).trans ((Heap.get?_update_other _ _ (Ne.symm hb)).trans (hk _ _ e))
theorem set_collect {D : Addr} {o : Obj} {ep : Nat} {es : Array (Int × Value)} {t : SetTable} {R : List Value → Shared → Prop} (hh : A.handled = none) (ho : s.heap.get? D = some o) (hex : o.ExactSet) (hd : o.data = .set es ep t) (hf : t.fits es.size = true) (hz : es.size ≤ 2)
    (hled : w.params.followText "set-order" = true ∨ t.led = true) (hpl : es.size = 2 → t.plain = false)
    (h : ∀ (vs : List Value) h' dr tk, vs.Perm (es.toList.map (·.2)) → (∀ b o, s.heap.get? b = some o → h'.get? b = some o) → R vs { s with heap := h', drawn := dr, toks := tk }) :
    wpAny (model prog w) A (collect (.ref D)) R E s := by
  have hlt := Heap.lt_size ho
  unfold collect
  refine wpAny_bind (wpAny_runValue (codeAny_builtin entry_proto_collect' ?_))
  rw [Around.under_plainId PySem.F.plain_proto_collect _]
  show wpAny _ A.in1 (newList [] >>= fun l => again (.builtin "list.__iadd__" ⟨[l, .ref D], []⟩)) _ _ s
  refine wpAny_bind (wpAny_newObj_type ?_)
  refine wpAny_pure ⟨plainId_quiet PySem.F.plain_list_iadd _, codeAny_builtin entry_list_iadd' ?_⟩
  rw [Around.under_plainId PySem.F.plain_list_iadd _]
  have hS₁ : (s.heap.push { cls := .type "list", data := .seq ([] : List Value).toArray }).get? s.heap.objs.size = some { cls := .type "list", data := .seq #[] } := Heap.get?_push_size _ rfl
  show wpAny _ A.in1 (Builtin.List.listExtendWith (.ref s.heap.objs.size) (.ref D) (.ref s.heap.objs.size)) _ _ _
  have key := set_extend (prog := prog) (w := w) (A := A) (s := { s with heap := s.heap.push { cls := .type "list", data := .seq ([] : List Value).toArray } })
    (R := fun (q : Result) (s' : Shared) => ∃ (h' : Heap) (dr : Drawn) (tk : Nat) (acc' : Array Value) (c' : Nat), q = .ok (.ret (.ref s.heap.objs.size)) ∧ s' = { s with heap := h', drawn := dr, toks := tk } ∧
      (∀ b o, s.heap.get? b = some o → h'.get? b = some o) ∧ h'.get? s.heap.objs.size = some { cls := .type "list", dict := none, data := .seq acc' c', slots := #[] } ∧ acc'.toList.Perm (es.toList.map (·.2)))
    hh (Heap.get?_push_of_some _ ho) hex hd hf hz hled hpl s.heap.objs.size (Nat.ne_of_gt hlt) (.ref s.heap.objs.size) 0 hS₁
    (fun vs h' dr tk acc' c' hp hk hS' hacc => ⟨h', dr, tk, acc', c', rfl, rfl, fun b o e => hk b o (Nat.ne_of_lt (Heap.lt_size e)) (Heap.get?_push_of_some _ e), hS', by rw [hacc]; exact hp⟩)
  refine wpAny_mono key (fun fin s' x => ?_) fun e s' x => ?_
  · cases fin with
    | done f =>
      obtain ⟨h', dr, tk, acc', c', e, rfl, hk, hS', hacc⟩ := x
      cases e
      show wpAny _ A (load s.heap.objs.size >>= _) _ _ _
      refine wpAny_bind (wpAny_load hS' ?_)
      exact wpAny_pure (h _ h' dr tk hacc hk)
    | again c₁ =>
      refine ⟨x.1, codeAny_mono x.2 fun q s₂ y => ?_⟩
      obtain ⟨h', dr, tk, acc', c', rfl, rfl, hk, hS', hacc⟩ := y
      show wpAny _ A (load s.heap.objs.size >>= _) _ _ _
      refine wpAny_bind (wpAny_load hS' ?_)
      exact wpAny_pure (h _ h' dr tk hacc hk)
  · obtain ⟨_, _, _, _, _, e', _⟩ := x
    cases e'
end
noncomputable def SetObj (w : World) (o : Obj) (ss : List Str) : Prop :=
  ∃ es ep t, o.ExactSet ∧ o.data = .set es ep t ∧ t.fits es.size = true ∧ (w.params.followText "set-order" = true ∨ t.led = true) ∧ (es.size = 2 → t.plain = false) ∧ ∃ ss', StrsAre (es.toList.map (·.2)) ss' ∧ ss'.Perm ss
section
variable {prog : Program} {w : World} {A : Around} {E : Value → Shared → Prop} {s : Shared} {g : Heap} {L D : Addr} {m : Str → Option Value} {ss : List Str} {news : List (Addr × Obj)} {Q : Value → Shared → Prop}
theorem strs_perm {vs ws : List Value} {ss : List Str} (S : StrsAre ws ss) (p : vs.Perm ws) : StrsAre vs (vs.map strOf) ∧ (vs.map strOf).Perm ss := by
  refine ⟨strsAre_map vs fun v hv => S.all v (p.mem_iff.mp hv), ?_⟩
  have := p.map strOf
  rwa [S.strs] at this
theorem sortedSet {o : Obj} (hh : A.handled = none) (F : Fr g L s.heap m) (N : News g L s.heap news) (hD : (D, o) ∈ news) (S : SetObj w o ss) (hz : ss.length ≤ 2)
    (h : ∀ D' h' tk dr vs' ss' k', Fr g L h' m → News g L h' ((D', listOf vs'.toArray k') :: news) → (∀ p ∈ news, p.1 < D') → StrsAre vs' ss' → ss'.Perm ss → sortedS ss' = true → Q (.ref D') { s with heap := h', toks := tk, drawn := dr }) : wpAny (model prog w) A (call (.builtin "sorted") [.ref D]) Q E s := by
  obtain ⟨es, ep, t, hex, hd, hf, hled, hpl, s0, hs0, hp0⟩ := S
  have hlen : es.size ≤ 2 := by
    have := StrsAre.length hs0
    rw [List.length_map, Array.length_toList] at this
    rw [this, hp0.length_eq]; exact hz
  refine call_function_entry kind_sorted plain_sorted entry_sorted (args_sorted1 _) ?_
  unfold Builtin.«sorted»
  refine wpAny_bind (m := checkCount "sorted" 1 1 _) (wpAny_pure ?_)
  refine wpAny_bind (set_collect (A := A.in1) hh (N _ hD).1 hex hd hf hlen hled hpl fun vs h' dr tk hp hk => ?_)
  obtain ⟨hS, hP⟩ := strs_perm hs0 hp
  have hvl : vs.length ≤ 2 := by rw [hp.length_eq, List.length_map, Array.length_toList]; exact hlen
  refine wpAny_bind (wpAny_newList ?_ (by rw [sizeLine_eq]; omega))
  have hoL : (h'.push (seqObj "list" vs.toArray 0)).get? h'.objs.size = some (seqObj "list" vs.toArray 0) := Heap.get?_push_size _ rfl
  have F1 : Fr g L (h'.push (seqObj "list" vs.toArray 0)) m := (F.keeps hk).push _
  refine wpAny_bind (wpAny_holding (wpAny_call_entry slot_list_sort ⟨_, hoL, rfl⟩ entry_list_sort (list_sort_treeK strKind_oneLt hoL hS.keysOf (fun v₁ v₂ rest e => keyKind_strs (by rw [← e]; exact hS)) (by omega) fun st' a1 a2 => ⟨_, rfl, ?_⟩) (args_list_sort _)))
  obtain ⟨ss', b1, b2, b3⟩ := sorted_out_str hS a1 a2
  obtain ⟨e, he⟩ := sortedHeap_at (out := (arrOf st').map (·.2)) hoL
  have hkeep : ∀ b o', h'.get? b = some o' → (sortedHeap (h'.push (seqObj "list" vs.toArray 0)) h'.objs.size vs ((arrOf st').map (·.2))).get? b = some o' := fun b o' e => by
    have hb := Heap.lt_size e
    rw [sortedHeap_old (Nat.ne_of_lt hb) (by rw [Heap.size_push]; exact Nat.lt_succ_of_lt hb)]
    exact Heap.get?_push_of_some _ e
  have F' : Fr g L h' m := F.keeps hk
  have N' : News g L h' news := fun p hp => ⟨hk _ _ (N p hp).1, (N p hp).2⟩
  have fin := h h'.objs.size _ tk dr ((arrOf st').map (·.2)).toList ss' e (F'.kept hkeep) (N'.kept_cons F' hkeep (Nat.le_refl _) he) (fun q hq => Heap.lt_size (hk _ _ (N q hq).1)) b1 (b2.trans (hP.trans hp0)) b3
  exact wpAny_pure ⟨_, rfl, fin⟩
end
end Mine
namespace Mine
theorem relaid_led {t t' : SetTable} {hs : Array Int} {n : Nat} {ord : Array Nat} (h : t.relaid hs n = some (t', ord)) : t'.led = t.led ∧ t'.plain = t.plain := by
  unfold SetTable.relaid SetTable.laid at h
  cases hc : SetTable.layClean (SetTable.sizeAbove n - 1) hs with
  | none => rw [hc] at h; cases h
  | some ow => rw [hc] at h; cases h; exact ⟨rfl, rfl⟩
theorem relayAll_led (t : SetTable) (es : Array (Int × Value)) (n : Nat) : (relayAll t es n).2.1.led = t.led ∧ (t.plain = false → (relayAll t es n).2.1.plain = false) := by
  unfold relayAll
  split
  · rename_i t' order hq
    obtain ⟨a, b⟩ := relaid_led hq
    dsimp only
    split
    · exact ⟨a, fun h => b.trans h⟩
    · exact ⟨rfl, fun _ => rfl⟩
  · exact ⟨rfl, fun _ => rfl⟩
theorem layNew_led (t : SetTable) (es : Array (Int × Value)) (h : Int) (x : Value) : (layNew t es h x).2.1.led = t.led ∧ (t.plain = false → (layNew t es h x).2.1.plain = false) := by
  unfold layNew
  split
  · dsimp only [SetTable.put, SetTable.orStandIn]
    refine ⟨?_, fun hp => ?_⟩
    · split <;> split <;> rfl
    · split <;> split <;> first | exact hp | rfl
  · exact ⟨rfl, fun _ => rfl⟩
noncomputable def stepS (σ : List Str) (k : Str) : List Str := if σ.any (· == k) then σ else σ ++ [k]
section
variable {prog : Program} {w : World} {A : Around} {E : Value → Shared → Prop} {s : Shared}
theorem addTailQ {g : Bool → Sem Unit} (hg : ∀ (b : Bool) (s₁ : Shared) (Q' : Unit → Shared → Prop), Q' () s₁ → wpAny (model prog w) A (g b) Q' E s₁)
    {a : Addr} {o : Obj} {es : Array (Int × Value)} {ep : Nat} {t : SetTable} (ho : s.heap.get? a = some o) (hd : o.data = .set es ep t)
    {es1 : Array (Int × Value)} {t2 : SetTable} (hb1 : es1.size < scanBound) (hf2 : t2.fits es1.size = true) {wasDummy : Bool} {R : Option Bool → Shared → Prop}
    (h : ∀ h' es' ep' t', Heap.SameBut a s.heap h' → h'.get? a = some { o with data := .set es' ep' t' } → es'.toList.Perm es1.toList → t'.fits es'.size = true → t'.led = t2.led → (t2.plain = false → t'.plain = false) → R (some true) { s with heap := h' }) :
    wpAny (model prog w) A (do
        storeSet a es1 t2
        if (!wasDummy && t2.tooFull) = true then do
            g (relayAll t2 es1 (SetTable.grown es1.size)).2.2
            storeSet a (relayAll t2 es1 (SetTable.grown es1.size)).1 (relayAll t2 es1 (SetTable.grown es1.size)).2.1
            pure (some true)
          else pure (some true)) R E s := by
  refine wpAny_bind (wpAny_storeSet_of ho hd ?_ (fits_of_scanBound hb1))
  have hput : ∀ {h0 : Heap} {o : Obj} {es : Array (Int × Value)} {ep : Nat} {t : SetTable} (es' : Array (Int × Value)) (t' : SetTable), h0.get? a = some o → o.data = .set es ep t → (h0.update a (Obj.putSet es' t')).get? a = some { o with data := .set es' (ep + 1) t' } := by
    intro h0 o es ep t es' t' ho hd
    have := Heap.get?_update_self (Obj.putSet es' t') ho (by rw [putSet_of es' t' hd]; rfl)
    rw [putSet_of es' t' hd] at this; exact this
  have ho1 := hput es1 t2 ho hd
  have hsb1 := Heap.SameBut.update s.heap a (Obj.putSet es1 t2)
  split
  · have hp := relayAll_perm t2 es1 (SetTable.grown es1.size)
    have hfr := relayAll_fits t2 es1 (SetTable.grown es1.size)
    have hlr := relayAll_led t2 es1 (SetTable.grown es1.size)
    generalize hRl : relayAll t2 es1 (SetTable.grown es1.size) = Rl at hp hfr hlr ⊢
    obtain ⟨es2, t3, gave2⟩ := Rl
    dsimp only at hp hfr hlr ⊢
    have hsz : es2.size = es1.size := by rw [← Array.length_toList, hp.length_eq, Array.length_toList]
    have hb2 : es2.size < scanBound := by rw [hsz]; exact hb1
    refine wpAny_bind (hg _ _ _ ?_)
    refine wpAny_bind (wpAny_storeSet_of ho1 rfl ?_ (fits_of_scanBound hb2))
    exact wpAny_pure (h _ _ _ _ (hsb1.trans (Heap.SameBut.update _ a _)) (hput (o := { o with data := .set es1 (ep + 1) t2 }) es2 t3 ho1 rfl) hp hfr hlr.1 hlr.2)
  · exact wpAny_pure (h _ _ _ _ hsb1 ho1 (List.Perm.refl _) hf2 rfl id)
noncomputable def SetQ (prog : Program) (w : World) (h : Heap) (a : Addr) (σ : List Str) (led : Bool) : Prop :=
  ∃ o es ep t s', h.get? a = some o ∧ o.ExactSet ∧ o.data = .set es ep t ∧ ElemsOf (PySem.strKind prog w) es.toList ∧ es.size < scanBound ∧ t.fits es.size = true ∧ t.led = led ∧ (es.size = 0 ∨ t.plain = false) ∧ StrsAre (es.toList.map (·.2)) s' ∧ s'.Perm σ
theorem strs_any {vs : List Value} {ss : List Str} (S : StrsAre vs ss) (k : Str) : (∃ v ∈ vs, v.isStrOf k = true) ↔ k ∈ ss := by
  induction S with
  | nil => simp
  | cons x t r ih =>
    simp only [List.mem_cons, exists_eq_or_imp, ih]
    have : (Value.str x t).isStrOf k = true ↔ k = x := by
      simp [Value.isStrOf]
      try exact eq_comm
    rw [this]
theorem setAddQ {a : Addr} {σ : List Str} {led : Bool} {k : Str} {tk : Tok} {Q : Bool → Shared → Prop} (hS : SetQ prog w s.heap a σ led) (hroom : σ.length + 1 < scanBound)
    (h : ∀ b h', Heap.SameBut a s.heap h' → SetQ prog w h' a (stepS σ k) led → Q b { s with heap := h' }) :
    wpAny (model prog w) A (setAddHashed a (.str k tk) ((PySem.strKind prog w).hash k)) Q E s := by
  obtain ⟨o, es, ep, t, s', ho, hex, hd, hel, hb, hf, hled, hpl, hst, hp⟩ := hS
  have hkey : (PySem.strKind prog w).is k (.str k tk) = true := strKind_is _ _ _ _
  have hsc : (Value.str k tk).scannable = true := rfl
  have hn : es.size = σ.length := by
    have := StrsAre.length hst
    rw [List.length_map, Array.length_toList] at this
    rw [this, hp.length_eq]
  have hb1 : es.size + 1 < scanBound := by rw [hn]; exact hroom
  have hin : (∃ e ∈ es.toList, (PySem.strKind prog w).is k e.2 = true) ↔ k ∈ σ := by
    rw [← hp.mem_iff, ← strs_any hst k]
    constructor
    · rintro ⟨e, he, hv⟩; exact ⟨e.2, List.mem_map_of_mem he, hv⟩
    · rintro ⟨v, hv, hk⟩
      obtain ⟨e, he, rfl⟩ := List.mem_map.mp hv
      exact ⟨e, he, hk⟩
  unfold setAddHashed setAddHashedIn
  refine wpAny_holding (wpAny_bind (wpAny_setState_of ho hd hf ?_))
  dsimp only
  rw [byScan_of hsc hb hel]
  simp only [↓reduceIte]
  unfold setAddByScan
  refine wpAny_bind ?_
  refine wpAny_bind (wpAny_rule ?_)
  refine wpAny_bind (wpAny_setScan_of hkey ho hd hf hel ?_)
  cases hr : List.findIdx? (fun e => (PySem.strKind prog w).is k e.2) es.toList with
  | some j =>
    dsimp only
    obtain ⟨hj, hpj, _⟩ := List.findIdx?_eq_some_iff_getElem.mp hr
    have hk : k ∈ σ := hin.mp ⟨es.toList[j], List.getElem_mem hj, hpj⟩
    refine wpAny_pure (wpAny_pure ?_)
    have e : stepS σ k = σ := by unfold stepS; rw [if_pos (by simpa using hk)]
    exact h false s.heap (Heap.SameBut.refl a s.heap) (by rw [e]; exact ⟨o, es, ep, t, s', ho, hex, hd, hel, hb, hf, hled, hpl, hst, hp⟩)
  | none =>
    dsimp only
    have hk : ¬ k ∈ σ := fun hm => by
      obtain ⟨e, he, hpe⟩ := hin.mpr hm
      have := List.findIdx?_eq_none_iff.mp hr e he; rw [hpe] at this; exact Bool.noConfusion this
    have e : stepS σ k = σ ++ [k] := by unfold stepS; rw [if_neg (by simpa using hk)]
    have hgw : ∀ (b : Bool) {s₁ : Shared} {Q' : Unit → Shared → Prop}, Q' () s₁ → wpAny (model prog w) A (match b with | true => rule "set.scan.the-table-gave-way" | false => pure ()) Q' E s₁ :=
      fun b s₁ Q' hq => by cases b <;> first | exact wpAny_pure hq | exact wpAny_rule hq
    have hperm := layNew_perm t es ((PySem.strKind prog w).hash k) (.str k tk)
    have hfits := layNew_fits t es ((PySem.strKind prog w).hash k) (.str k tk)
    have hlnew := layNew_led t es ((PySem.strKind prog w).hash k) (.str k tk)
    generalize hL : layNew t es ((PySem.strKind prog w).hash k) (.str k tk) = L at hperm hfits hlnew ⊢
    obtain ⟨es1, t1, wasDummy, gave⟩ := L
    dsimp only at hperm hfits hlnew ⊢
    rw [Array.toList_push] at hperm
    have hel1 : ElemsOf (PySem.strKind prog w) es1.toList := (hel.push hkey hsc).perm hperm
    have hb1' : es1.size < scanBound := by rw [← Array.length_toList, hperm.length_eq, List.length_append, Array.length_toList]; simpa using hb1
    refine wpAny_bind (hgw _ ?_)
    have hend : ∀ h' es' ep' t', Heap.SameBut a s.heap h' → h'.get? a = some { o with data := .set es' ep' t' } → es'.toList.Perm es1.toList → t'.fits es'.size = true → t'.led = led → t'.plain = false → Q true { s with heap := h' } := by
      intro h' es' ep' t' hsb hg hp' hf' hl' hq'
      have hpv := (hp'.trans hperm).map (·.2)
      have S2 : StrsAre ((es.toList ++ [((PySem.strKind prog w).hash k, Value.str k tk)]).map (·.2)) (s' ++ [k]) := by
        rw [List.map_append]
        exact StrsAre.append' hst (.cons k tk .nil)
      obtain ⟨S3, p3⟩ := strs_perm S2 hpv
      refine h true h' hsb ⟨_, es', ep', t', _, hg, hex, rfl, hel1.perm hp', ?_, hf', hl', .inr hq', S3, p3.trans ?_⟩
      · rw [← Array.length_toList, hp'.length_eq, Array.length_toList]; exact hb1'
      · rw [e]; exact hp.append_right [k]
    have hpk : plainKind (Value.str k tk) = false := rfl
    split
    · refine wpAny_bind ?_
      rw [hashByValue_scannable 8 hsc]
      refine wpAny_pure ?_
      rw [hpk]
      refine addTailQ ?_ ho hd hb1' (SetTable.fits_plain_off hfits) ?_
      · intro b s₁ Q' hq; cases b <;> first | exact wpAny_pure hq | exact wpAny_rule hq
      · intro h' es' ep' t' a1 a2 a3 a4 a5 a6
        dsimp only; exact wpAny_pure (hend h' es' ep' t' a1 a2 a3 a4 (a5.trans (hlnew.1.trans hled)) (a6 rfl))
    · rename_i hnp
      refine wpAny_bind (wpAny_pure ?_)
      simp only [↓reduceIte]
      refine addTailQ ?_ ho hd hb1' hfits ?_
      · intro b s₁ Q' hq; cases b <;> first | exact wpAny_pure hq | exact wpAny_rule hq
      · intro h' es' ep' t' a1 a2 a3 a4 a5 a6
        dsimp only; exact wpAny_pure (hend h' es' ep' t' a1 a2 a3 a4 (a5.trans (hlnew.1.trans hled)) (a6 (by simpa using hnp)))
end
end Mine
namespace Mine
theorem foldS_len : ∀ (l : List Str) (σ : List Str), (l.foldl stepS σ).length ≤ σ.length + l.length
  | [], σ => by simp
  | x :: r, σ => by
    have := foldS_len r (stepS σ x)
    have h2 : (stepS σ x).length ≤ σ.length + 1 := by unfold stepS; split <;> simp
    simp only [List.foldl_cons, List.length_cons]; omega
theorem foldS_perm {ss : List Str} (hz : ss.length ≤ 2) : (ss.foldl stepS []).Perm ss.eraseDups := by
  match ss, hz with
  | [], _ => simp
  | [a], _ => simp [stepS, List.eraseDups_cons]
  | [a, b], _ =>
    by_cases e : b = a
    · subst e; simp [stepS, List.eraseDups_cons]
    · have e1 : (b == a) = false := by simpa using e
      have e2 : (a == b) = false := by simpa using fun h : a = b => e h.symm
      simp [stepS, List.eraseDups_cons, e1, e2]
theorem str_at : ∀ {vs : List Value} {ss : List Str}, StrsAre vs ss → ∀ (i : Nat) (v : Value), vs[i]? = some v → ∃ x t, ss[i]? = some x ∧ v = .str x t
  | _, _, .nil, i, v, h => by simp at h
  | _, _, .cons n t hr, 0, v, h => by simp at h; exact ⟨n, t, rfl, h.symm⟩
  | _, _, .cons n t hr, i + 1, v, h => by
    simp only [List.getElem?_cons_succ] at h
    exact str_at hr i v h
section
variable {prog : Program} {w : World} {A : Around} {E : Value → Shared → Prop} {s : Shared}
theorem updQ {R : Result → Shared → Prop} {I : Addr} {fp wr : List Addr} {G : Array GenState → Array GenState → Prop} {n : Nat} {P : Nat → Value → Prop} {St : Nat → Shared → Prop} {led : Bool} (W : WalksS prog w A.in1 I fp wr G n P St) (S : Addr) (hSf : S ∉ fp)
    (ss : List Str) (hn : ss.length = n) (hval : ∀ i v, P i v → ∃ x t, ss[i]? = some x ∧ v = .str x t) (hb : n + 1 < scanBound) :
    ∀ (k i : Nat) (s : Shared), n - i = k → i ≤ n → St i s → SetQ prog w s.heap S ((ss.take i).foldl stepS []) led →
      (∀ s', Moved (S :: wr) G s s' → SetQ prog w s'.heap S (ss.foldl stepS []) led → R (.ok (.ret .none)) s') →
      codeAny (model prog w) A (.builtin "set.update.loop" ⟨[.ref S, .ref I], []⟩) R s := by
  have hSw : S ∉ wr := fun h => hSf (W.sub _ h)
  have hsub : ∀ b ∈ wr, b ∈ S :: wr := fun b hb => List.mem_cons_of_mem _ hb
  have hmv : ∀ {s s' : Shared} {σ : List Str}, Moved wr G s s' → SetQ prog w s.heap S σ led → SetQ prog w s'.heap S σ led := by
    intro s s' σ hm hS
    obtain ⟨o, es, ep, t, s0, ho, rest⟩ := hS
    exact ⟨o, es, ep, t, s0, hm.heap S _ hSw ho, rest⟩
  intro k
  induction k with
  | zero =>
    intro i s hk hi hst hS hR
    have hin : i = n := by omega
    subst hin
    refine codeAny_builtin F.entry_set_update_loop ?_
    rw [Around.under_plainId F.plain_set_update_loop _]
    show wpAny _ A.in1 (pyNext (.ref I) >>= _) _ _ s
    refine wpAny_bind (W.done s _ _ hst fun s' hm => ?_)
    show wpAny _ A.in1 (ret Value.none) _ _ s'
    rw [← hn, List.take_length] at hS
    exact wpAny_pure (hR s' (hm.mono hsub) (hmv hm hS))
  | succ k ih =>
    intro i s hk hi hst hS hR
    have hlt : i < n := by omega
    refine codeAny_builtin F.entry_set_update_loop ?_
    rw [Around.under_plainId F.plain_set_update_loop _]
    show wpAny _ A.in1 (pyNext (.ref I) >>= _) _ _ s
    refine wpAny_bind (W.item i s _ _ hlt hst fun v s' hP hst' hm => ?_)
    obtain ⟨x, t, hx, rfl⟩ := hval i v hP
    have hS' := hmv hm hS
    show wpAny _ A.in1 (holding [Value.str x t] (setAdd S (.str x t)) >>= _) _ _ s'
    refine wpAny_bind (wpAny_holding ?_)
    unfold setAdd
    refine wpAny_holding ?_
    refine wpAny_bind ((PySem.strKind prog w).pyHash (k := x) (strKind_is _ _ _ _) ?_)
    have hlen := foldS_len (ss.take i) []
    have hroom : ((ss.take i).foldl stepS []).length + 1 < scanBound := by
      rw [List.length_take, List.length_nil] at hlen; omega
    refine setAddQ (s := { s' with toks := s'.toks + 1 }) hS' hroom fun b h' hsb hS2 => ?_
    have htk : (ss.take (i + 1)).foldl stepS [] = stepS ((ss.take i).foldl stepS []) x := by
      rw [List.take_add_one, hx, List.foldl_append]; rfl
    refine wpAny_pure ⟨plainId_quiet F.plain_set_update_loop _, ih (i + 1) _ (by omega) hlt (W.frame _ s' _ _ hst' (Nat.le_succ _) fun b hb o e => ?_) (by rw [htk]; exact hS2) fun s'' hm'' hS'' => ?_⟩
    · rw [hsb.2 b (fun h : b = S => hSf (by rw [← h]; exact hb))]; exact e
    · refine hR s'' (Moved.trans W.gtrans ((hm.mono hsub).then_heap (Nat.le_succ _) fun b o hb e => ?_) hm'') hS''
      rw [hsb.2 b (fun h : b = S => hb (by rw [h]; exact List.mem_cons_self))]; exact e
theorem code_set_newQ (a : Value) {Q₁ : Value → Shared → Prop}
    (h : Q₁ (.ref s.heap.objs.size) { s with heap := s.heap.push { cls := .type "set", dict := none, data := .set #[] 0 (.fresh 0 0 (!w.params.followText "set-order")) } }) :
    codeAny (model prog w) A (.call (.builtin "set.__new__") ⟨[.type "set", a], []⟩) (wants Q₁ E) s := by
  refine codeAny_of_tree ?_
  show wpAny _ A.in1 (do checkBuiltinCall "set.__new__" ⟨[.type "set", a], []⟩; again (.builtin "set.__new__" ⟨[.type "set", a], []⟩)) _ _ s
  refine wpAny_bind (wpAny_of_eq (PySem.F.newCall_set_1 a) (wpAny_pure ⟨plainId_quiet PySem.F.plain_set_new _, codeAny_builtin PySem.F.entry_set_new ?_⟩))
  rw [Around.under_plainId PySem.F.plain_set_new _]
  unfold Builtin.«set.__new__» Builtin.Frozenset.newClass
  have hsub := sub_set_self
  obtain ⟨hp, g, d, tk, os⟩ := s
  dsimp only
  wp_walk
  refine wpAny_askSetting (wpAny_pure ?_)
  dsimp only
  simp only [newObj]
  refine wpAny_bind (wpAny_alloc (wpAny_pure ?_))
  exact wpAny_pure h
theorem call_set_strs {l : Addr} {items : Array Value} {ss : List Str} {Q : Value → Shared → Prop}
    (hh : A.handled = none) (hl : s.heap.IsList l items) (hi : StrsAre items.toList ss) (hb : items.size + 1 < scanBound)
    (h : ∀ (h' : Heap) (tk : Nat), SetQ prog w h' s.heap.objs.size (ss.foldl stepS []) (!w.params.followText "set-order") →
      (∀ b o, b < s.heap.objs.size → s.heap.get? b = some o → h'.get? b = some o) → Q (.ref s.heap.objs.size) { s with heap := h', toks := tk }) :
    wpAny (model prog w) A (call (.type "set") [.ref l]) Q E s := by
  obtain ⟨c, tl, hmro⟩ := PySem.F.called_set.mro
  have hmade := PySem.F.called_set.made
  have hsub := PySem.F.called_set.sub
  refine wpAny_call (codeAny_of_tree ?_)
  show wpAny _ _ (callAny (.type "set") _) _ _ _
  refine wpAny_pure ⟨Code.quiet_builtin _ (by decide +kernel), codeAny_builtin PySem.F.entry_type_call ?_⟩
  rw [Around.under_plain (weight_type_call_type "set" [.ref l] []) rfl]
  have h1 := PySem.F.called_set.notType
  have h2 := PySem.F.called_set.canCreate
  have hct := PySem.F.typeCall_set_1 (.ref l)
  repeat (any_goals (first | assumption | wp_step))
  generalize hled : (!w.params.followText "set-order") = led at h
  refine codeAny_mono (code_set_newQ (.ref l) (E := E) (Q₁ := fun obj s₁ => obj = .ref s.heap.objs.size ∧ s₁ = { s with heap := s.heap.push { cls := .type "set", dict := none, data := .set #[] 0 (.fresh 0 0 led) } }) ⟨rfl, by rw [hled]⟩) fun r s₁ hr => ?_
  cases r with
  | error e => exact hr
  | ok fl =>
    cases fl with
    | ret obj =>
      obtain ⟨rfl, rfl⟩ := hr
      have hS : (s.heap.push { cls := .type "set", dict := none, data := .set #[] 0 (.fresh 0 0 led) }).get? s.heap.objs.size = some { cls := .type "set", dict := none, data := .set #[] 0 (.fresh 0 0 led) } := Heap.get?_push_size _ rfl
      have hT : Shared.TypeIs { s with heap := s.heap.push { cls := .type "set", dict := none, data := .set #[] 0 (.fresh 0 0 led) } } (.ref s.heap.objs.size) "set" := ⟨_, hS, rfl⟩
      have hli := PySem.F.called_set.init.lookup
      have hbi := PySem.F.called_set.init.bind (.ref s.heap.objs.size)
      repeat (any_goals (first | assumption | wp_step))
      refine codeAny_mono (codeAny_call_builtin (R := wants (fun r s₂ => r = .none ∧ ∃ h' tk, s₂ = { s with heap := h', toks := tk } ∧
          SetQ prog w h' s.heap.objs.size (ss.foldl stepS []) led ∧
          (∀ b o, b < s.heap.objs.size → s.heap.get? b = some o → h'.get? b = some o)) E) PySem.F.called_set.init.plain PySem.F.entry_set_init (check_set_init_1 hT ?_)) fun r₂ s₂ hr₂ => ?_
      · obtain ⟨ol, hol, hcl, nl, hdl⟩ := hl
        obtain ⟨ocls, odict, odata, oslots⟩ := ol
        simp only at hcl hdl
        subst hcl; subst hdl
        have hol' : (s.heap.push { cls := .type "set", dict := none, data := .set #[] 0 (.fresh 0 0 led) }).get? l = some { cls := .type "list", dict := odict, data := .seq items nl, slots := oslots } := Heap.get?_push_of_some _ hol
        have hsls := PySem.F.sub_list_set
        have hslf := PySem.F.sub_list_frozenset
        have hne : (Value.type "list" == Value.type "dict") = false := by decide
        have hl1 : (s.heap.push { cls := .type "set", dict := none, data := .set #[] 0 (.fresh 0 0 led) }).IsList l items := ⟨_, hol', rfl, nl, rfl⟩
        unfold Builtin.«set.__init__» noKeywords Builtin.Frozenset.updateFrom
        generalize hPI : pyIter = PI
        wp_walk
        subst hPI
        refine wpAny_pyIter_list hl1 ?_
        refine wpAny_bind (wpAny_runValue ?_)
        have hlS : l < s.heap.objs.size := Heap.lt_size hol
        have hh3 : A.in1.in1.in1.handled = none := by simp [hh]
        have hneI : l ≠ (s.heap.push { cls := .type "set", dict := none, data := .set #[] 0 (.fresh 0 0 led) }).objs.size := by
          rw [Heap.size_push]; exact Nat.ne_of_lt (Nat.lt_succ_of_lt hlS)
        have hSf : s.heap.objs.size ∉ [(s.heap.push { cls := .type "set", dict := none, data := .set #[] 0 (.fresh 0 0 led) }).objs.size, l] := by
          rw [Heap.size_push]; simp only [List.mem_cons, List.mem_singleton, List.not_mem_nil, or_false, not_or]
          exact ⟨Nat.ne_of_lt (Nat.lt_succ_self _), Nat.ne_of_gt hlS⟩
        have hval : ∀ (i : Nat) (v : Value), items[i]? = some v → ∃ x t, ss[i]? = some x ∧ v = .str x t := fun i v hv =>
          str_at hi i v (by rw [Array.getElem?_toList]; exact hv)
        refine updQ (led := led) ((Walks.list hh3 _ l hneI items).toS) s.heap.objs.size
          hSf ss (by rw [← StrsAre.length hi, Array.length_toList]) hval hb (items.size - 0) 0 _ (by omega) (Nat.zero_le _)
          ⟨⟨_, Heap.get?_push_size _ rfl, rfl, rfl⟩, (hl1.push _)⟩ ?hS0 ?hR
        case hS0 =>
          have hget : ((s.heap.push { cls := .type "set", dict := none, data := .set #[] 0 (.fresh 0 0 led) }).push { cls := .type "list_iterator", data := .fields #[.ref l, .int 0 0] }).get? s.heap.objs.size
              = some { cls := .type "set", dict := none, data := .set #[] 0 (.fresh 0 0 led) } := Heap.get?_push_of_some _ hS
          exact ⟨_, #[], 0, _, [], hget, ⟨rfl, rfl, rfl⟩, rfl, fun e he => by simp at he, by unfold scanBound; simp, by rfl, rfl, .inl rfl, .nil, .nil⟩
        case hR =>
          intro s' hm hS'
          obtain ⟨h', g', d', tk', os'⟩ := s'
          have eg : g' = s.gens := hm.gens
          have ed : d' = s.drawn := hm.drawn
          have eo : os' = s.os := hm.os
          subst eg; subst ed; subst eo
          show wpAny _ _ _ _ _ _
          refine wpAny_pure ?_
          show wpAny _ _ (ret Value.none) _ _ _
          refine wpAny_pure ⟨rfl, h', tk', rfl, hS', fun b o hb e => ?_⟩
          have hb1 : b ≠ s.heap.objs.size := Nat.ne_of_lt hb
          have hb2 : b ≠ (s.heap.push { cls := .type "set", dict := none, data := .set #[] 0 (.fresh 0 0 led) }).objs.size := by
            rw [Heap.size_push]; exact Nat.ne_of_lt (Nat.lt_succ_of_lt hb)
          exact hm.heap b o (by simp only [List.mem_cons, List.mem_singleton, List.not_mem_nil, or_false, not_or]; exact ⟨hb1, hb2⟩) (Heap.get?_push_of_some _ (Heap.get?_push_of_some _ e))
      · cases r₂ with
        | error e => exact hr₂
        | ok fl₂ =>
          cases fl₂ with
          | ret r =>
            obtain ⟨rfl, h', tk, rfl, hS', hk'⟩ := hr₂
            repeat (any_goals (first | assumption | wp_step))
            exact h _ _ hS' hk'
          | _ => exact hr₂.elim
    | _ => exact hr.elim
theorem setStrs {g : Heap} {L D : Addr} {m : Str → Option Value} {ys : List Value} {ss : List Str} {news : List (Addr × Obj)} {k : Nat} {Q : Value → Shared → Prop} (hh : A.handled = none) (F : Fr g L s.heap m) (N : News g L s.heap news) (hD : (D, listOf ys.toArray k) ∈ news) (S : StrsAre ys ss) (hz : ss.length ≤ 2)
    (h : ∀ D' h' o tk, Fr g L h' m → News g L h' ((D', o) :: news) → (∀ p ∈ news, p.1 < D') → SetObj w o ss.eraseDups → Q (.ref D') { s with heap := h', toks := tk }) : wpAny (model prog w) A (call (.type "set") [.ref D]) Q E s := by
  have hyl : ys.length = ss.length := StrsAre.length S
  refine call_set_strs (items := ys.toArray) (ss := ss) hh ⟨_, (N _ hD).1, rfl, k, rfl⟩ (by simpa using S) (by rw [List.size_toArray]; unfold scanBound; omega) fun h' tk hS hk => ?_
  obtain ⟨o, es, ep, t, s', ho, hex, hd, hel, hbb, hf, hled, hpl, hst, hp⟩ := hS
  obtain ⟨oL, hL1, hL2, hL, hL3⟩ := F.ns
  have hLlt : L < s.heap.objs.size := Heap.lt_size hL
  refine h s.heap.objs.size h' o tk ⟨F.ns.at' fun o' e => hk L o' hLlt e, fun b o' e => hk b o' (Heap.lt_size (F.keep b o' e)) (F.keep b o' e), F.above⟩ (fun p hp' => ?_) (fun q hq => Heap.lt_size (N q hq).1)
    ⟨es, ep, t, hex, hd, hf, ?_, ?_, s', hst, hp.trans (foldS_perm hz)⟩
  · rcases List.mem_cons.mp hp' with rfl | hp'
    · refine ⟨ho, Nat.ne_of_gt hLlt, ?_⟩
      cases hq : g.get? s.heap.objs.size with
      | none => rfl
      | some o' => exact absurd (Heap.lt_size (F.keep _ _ hq)) (Nat.lt_irrefl _)
    · exact ⟨hk _ _ (Heap.lt_size (N p hp').1) (N p hp').1, (N p hp').2.1, (N p hp').2.2⟩
  · rw [hled]
    cases w.params.followText "set-order" <;> simp
  · intro h2
    exact hpl.resolve_left (by omega)
end
end Mine
namespace Mine
noncomputable def Src (w : World) (A : Around) (s : Shared) (vs : List Value) (it : Value) (s₂ : Shared) : Prop :=
  ∃ I fp St, it = .ref I ∧ Walks PG w A I fp [I] vs.length (fun i v => vs[i]? = some v) St ∧ St 0 s₂.heap ∧ (∀ b ∈ fp, b < s₂.heap.objs.size) ∧ (∃ h tk, s₂ = { s with heap := h, toks := tk }) ∧ Keep s.heap s₂.heap ∧ s.heap.get? I = none
theorem none_size (h : Heap) : h.get? h.objs.size = none := by
  cases e : h.get? h.objs.size with
  | none => rfl
  | some o => exact absurd (Heap.lt_size e) (Nat.lt_irrefl _)
section
variable {w : World} {A : Around} {E : Value → Shared → Prop} {s : Shared} {g : Heap} {L D : Addr} {m : Str → Option Value} {v : Value} {d : PyData} {vs : List Value} {ds : List PyData} {env : Env} {news : List (Addr × Obj)}
theorem src_tup {a : Addr} (hh : A.handled = none) (R : IsTup s.heap a vs.toArray) : wpAny (model PG w) A (pyIter (.ref a)) (Src w A s vs) E s := by
  have R' := R
  obtain ⟨o, ho, r⟩ := R
  have hne : a ≠ s.heap.objs.size := Nat.ne_of_lt (Heap.lt_size ho)
  refine wpAny_pyIter_tuple ⟨o, ho, r⟩ ?_
  have W := Walks.tuple (prog := PG) (w := w) hh s.heap.objs.size a hne vs.toArray
  simp only [List.size_toArray, List.getElem?_toArray] at W
  refine ⟨_, _, _, rfl, W, ⟨⟨_, Heap.get?_push_size _ rfl, rfl, rfl⟩, ⟨o, Heap.get?_push_of_some _ ho, r⟩⟩, ?_, ⟨_, _, rfl⟩, fun b o e => Heap.get?_push_of_some _ e, none_size _⟩
  intro b hb
  show b < (s.heap.push _).objs.size
  rw [Heap.size_push]
  rcases List.mem_cons.mp hb with rfl | hb
  · exact Nat.lt_succ_self _
  · rw [List.mem_singleton.mp hb]; exact Nat.lt_succ_of_lt (Heap.lt_size ho)
theorem src_list {a : Addr} (hh : A.handled = none) (R : s.heap.IsList a vs.toArray) : wpAny (model PG w) A (pyIter (.ref a)) (Src w A s vs) E s := by
  obtain ⟨o, ho, r⟩ := R
  have hne : a ≠ s.heap.objs.size := Nat.ne_of_lt (Heap.lt_size ho)
  refine wpAny_pyIter_list ⟨o, ho, r⟩ ?_
  have W := Walks.list (prog := PG) (w := w) hh s.heap.objs.size a hne vs.toArray
  simp only [List.size_toArray, List.getElem?_toArray] at W
  refine ⟨_, _, _, rfl, W, ⟨⟨_, Heap.get?_push_size _ rfl, rfl, rfl⟩, ⟨o, Heap.get?_push_of_some _ ho, r⟩⟩, ?_, ⟨_, _, rfl⟩, fun b o e => Heap.get?_push_of_some _ e, none_size _⟩
  intro b hb
  show b < (s.heap.push _).objs.size
  rw [Heap.size_push]
  rcases List.mem_cons.mp hb with rfl | hb
  · exact Nat.lt_succ_self _
  · rw [List.mem_singleton.mp hb]; exact Nat.lt_succ_of_lt (Heap.lt_size ho)
theorem reads_isTupAt {h : Heap} (R : Reads h v d []) (ht : isTup d = true) : ∃ a vs, v = .ref a ∧ IsTup h a vs.toArray ∧ ReadsAll h vs (kids d) [] := by
  obtain ⟨a, o, vs, n, e, h1, h2, h3, h4⟩ := reads_tup (reads_isTup R ht)
  exact ⟨a, vs.toList, e, ⟨o, h1, h2, n, by simpa using h3⟩, h4⟩
theorem paired_reads {t : PyData → Bool} {f : PyData → PyData} {p : Value → Bool} : ∀ {vs : List Value} {ds : List PyData} {ys : List Value}, PyData.canLayAll0 ds = true → ReadsAll g vs ds [] → (∀ v, p v = t (SeqAt.readOf g v)) → Paired (fun v y => Reads g y (f (SeqAt.readOf g v)) []) (vs.filter p) ys → ReadsAll g ys ((ds.filter t).map f) [] := by
  intro vs
  induction vs with
  | nil => intro ds ys _ r _ q; cases r; cases q; exact .nil
  | cons v vs ih =>
    intro ds ys hc r hp q
    obtain ⟨d, es, rfl, r1, r2⟩ := readsAll_cons r
    have hc' : d.canLay0 = true ∧ PyData.canLayAll0 es = true := by simpa [PyData.canLayAll0] using hc
    have e := SeqAt.readOf_eq hc'.1 r1
    have e2 := hp v
    rw [e] at e2
    rw [List.filter_cons, e2] at q
    rw [List.filter_cons]
    cases ht : t d with
    | false => rw [ht] at q; simp only [Bool.false_eq_true, if_false] at q ⊢; exact ih hc'.2 r2 hp q
    | true =>
      rw [ht] at q
      simp only [if_true, List.map_cons] at q ⊢
      cases q with
      | cons q1 q2 => rw [e] at q1; exact ReadsAll.cons q1 (ih hc'.2 r2 hp q2)
structure CompBody (w : World) (A : Around) (g : Heap) (L : Addr) (m : Str → Option Value) (s : Shared) (env : Env) (scope : Scope) (x : Str) (ifs : List PySem.Expr) (elt : PySem.Expr) (ds : List PyData) (t : PyData → Bool) (f : PyData → PyData) : Prop where
  tests : ∀ C one d1 s₃ m₃, d1 ∈ ds → Reads g one d1 [] → Fr g C s₃.heap m₃ → m₃ x = some one → Fr g L s₃.heap m → Keep s.heap s₃.heap →
    wpAny (model PG w) A (forIn ifs true fun c r => if r = true then do let ok ← isTrue c (compEnvC scope [] C env) (eval c (compEnvC scope [] C env)); pure (ForInStep.yield ok) else pure (ForInStep.yield r))
      (fun ok s₄ => ok = t d1 ∧ Keeps s₃ s₄) (fun _ _ => False) s₃
  elt : ∀ C one d1 s₃ m₃, d1 ∈ ds → t d1 = true → Reads g one d1 [] → Fr g C s₃.heap m₃ → m₃ x = some one → Fr g L s₃.heap m → Keep s.heap s₃.heap →
    wpAny (model PG w) A (eval elt (compEnvC scope [] C env)) (fun y s₄ => Reads g y (f d1) [] ∧ Keeps s₃ s₄) (fun _ _ => False) s₃
theorem readsAll_at {h : Heap} : ∀ {vs : List Value} {ds : List PyData} (_ : ReadsAll h vs ds []) {i : Nat} {v : Value}, vs[i]? = some v → ∃ d, d ∈ ds ∧ Reads h v d [] := by
  intro vs
  induction vs with
  | nil => intro ds _ i v e; simp at e
  | cons u vs ih =>
    intro ds r i v e
    obtain ⟨d, es, rfl, r1, r2⟩ := readsAll_cons r
    cases i with
    | zero => simp at e; subst e; exact ⟨d, .head _, r1⟩
    | succ i => simp at e; obtain ⟨d', hd, r'⟩ := ih r2 e; exact ⟨d', .tail _ hd, r'⟩
theorem canLay_mem : ∀ {ds : List PyData} {d : PyData}, PyData.canLayAll0 ds = true → d ∈ ds → d.canLay0 = true
  | x :: ds, d, h, hm => by
    have h' : x.canLay0 = true ∧ PyData.canLayAll0 ds = true := by simpa [PyData.canLayAll0] using h
    rcases List.mem_cons.mp hm with rfl | hm
    · exact h'.1
    · exact canLay_mem h'.2 hm
theorem comp_quiet {scope : Scope} {x : Str} {ifs : List PySem.Expr} {elt : PySem.Expr} {t : PyData → Bool} {f : PyData → PyData} {I : Addr} {s₂ : Shared} (F : Fr g L s.heap m) (RA : ReadsAll g vs ds []) (hok : PyData.canLayAll0 ds = true) (k : Keep s.heap s₂.heap) (hI : s.heap.get? I = none)
    (b : CompBody w A g L m s env scope x ifs elt ds t f) :
    QuietOnC PG w A env scope [] x ifs elt [I] (fun i v => vs[i]? = some v) (fun v => t (SeqAt.readOf g v)) (fun v y => Reads g y (f (SeqAt.readOf g v)) []) s₂ := by
  have up : ∀ {h : Heap}, (∀ b o, b ∉ [I] → s₂.heap.get? b = some o → h.get? b = some o) → Keep s.heap h := fun hk b o e =>
    hk b o (fun hb => by rw [List.mem_singleton.mp hb, hI] at e; cases e) (k b o e)
  constructor
  · intro C i v s₃ m₃ E' hC hv hn hm hk _
    obtain ⟨d, hd, r⟩ := readsAll_at RA hv
    have hk' := up hk
    rw [SeqAt.readOf_eq (canLay_mem hok hd) r]
    exact wpAny_noRaise (b.tests C v d s₃ m₃ hd r ⟨hn, (fun b o e => hk' b o (F.keep b o e)), Nat.le_trans F.above (Nat.le_of_lt (Nat.lt_of_lt_of_le (Keep.fr k F).ns.lt hC))⟩ hm (Keep.fr hk' F) hk')
  · intro C i v s₃ m₃ E' hC hv hp hn hm hk _
    obtain ⟨d, hd, r⟩ := readsAll_at RA hv
    have hk' := up hk
    have e := SeqAt.readOf_eq (canLay_mem hok hd) r
    rw [e] at hp ⊢
    exact wpAny_noRaise (b.elt C v d s₃ m₃ hd hp r ⟨hn, (fun b o e => hk' b o (F.keep b o e)), Nat.le_trans F.above (Nat.le_of_lt (Nat.lt_of_lt_of_le (Keep.fr k F).ns.lt hC))⟩ hm (Keep.fr hk' F) hk')
theorem compG {elt iter : PySem.Expr} {x : Str} {px : Pos} {ifs : List PySem.Expr} {scope : Scope} {pos : Pos} {Q : Value → Shared → Prop} (t : PyData → Bool) (f : PyData → PyData)
    (hfree : ∀ y ∈ scope.names, y.2 ≠ .free) (hcell : ∀ y ∈ scope.names, y.2 ≠ .cell) (hkind : scope.kind = .function)
    (hnames : ∀ y ∈ scope.names, y.2 = .local → scope.names.lookup y.1 = some .local) (hx : scope.names.lookup x = some .local) (hs : ∀ x, foldedSetIterable iter env x = pure x)
    (F : Fr g L s.heap m) (RA : ReadsAll g vs ds []) (hok : PyData.canLayAll0 ds = true) (hz : vs.length ≤ 2 ^ 20)
    (hit : wpAny (model PG w) A (eval iter env) (fun xv s₁ => wpAny (model PG w) A (pyIter xv) (Src w A s vs) E s₁) E s)
    (b : CompBody w A g L m s env scope x ifs elt ds t f)
    (N : News g L s.heap news) (done : ∀ D h' tk ys k, Keep s.heap h' → Fr g L h' m → News g L h' ((D, listOf ys.toArray k) :: news) → (∀ p ∈ news, p.1 ≠ D) → ReadsAll g ys ((ds.filter t).map f) [] → Q (.ref D) { s with heap := h', toks := tk }) :
    wpAny (model PG w) A (eval (.ListComp elt [⟨.Name x px, iter, ifs, 0⟩] scope pos) env) Q E s := by
  refine wpAny_ListComp_free (fun v => t (SeqAt.readOf g v)) (fun v y => Reads g y (f (SeqAt.readOf g v)) []) (closureFor_none hfree) hcell hkind hnames hx (wpAny_mono hit (fun xv s₁ h₁ => wpAny_mono h₁ (fun it s₂ h₂ => ?_) fun _ _ e => e) fun _ _ e => e) hs
  obtain ⟨I, fp, St, rfl, W, hst, hfp, ⟨h, tk, rfl⟩, hk, hI⟩ := h₂
  refine ⟨I, fp, [I], _, _, St, rfl, W, by rw [sizeLine_eq]; omega, hst, hfp, comp_quiet F RA hok hk hI b, ?_⟩
  intro D h' tk' ys vs' hD hl hpl hlen hP hF hkk
  have e : vs' = vs := List.ext_getElem? fun j => by
    cases hj : vs'[j]? with
    | some v => rw [hP j v hj]
    | none =>
      have : vs'.length ≤ j := List.getElem?_eq_none_iff.mp hj
      rw [List.getElem?_eq_none (by omega)]
  subst e
  obtain ⟨k, ho⟩ := hpl
  have hk' : Keep s.heap h' := fun b o e => hkk b o (fun hb => by rw [List.mem_singleton.mp hb, hI] at e; cases e) (hk b o e)
  have hD' : s.heap.get? D = none := by
    cases q : s.heap.get? D with
    | none => rfl
    | some o => rw [hk D o q] at hD; cases hD
  have hg : g.get? D = none := by
    cases q : g.get? D with
    | none => rfl
    | some o => rw [F.keep D o q] at hD'; cases hD'
  have hDL : D ≠ L := by
    rintro rfl
    obtain ⟨o, _, _, ho, _⟩ := F.ns
    rw [hD'] at ho; cases ho
  refine done D h' tk' ys.toList k hk' (Keep.fr hk' F) (fun p hp => ?_) (fun p hp q => ?_) (paired_reads hok RA (fun _ => rfl) hF)
  · rcases List.mem_cons.mp hp with rfl | hp
    · exact ⟨by simpa [PySem.W.listOf] using ho, hDL, hg⟩
    · exact Keep.news hk' N p hp
  · have := (N p hp).1; rw [q, hD'] at this; cases this
theorem compGA {elt iter : PySem.Expr} {x y : Str} {px py : Pos} {ifs : List PySem.Expr} {scope : Scope} {pos spos : Pos} {Q : Flow → Shared → Prop} (t : PyData → Bool) (f : PyData → PyData)
    (hsw : swapsWith (.ListComp elt [⟨.Name x px, iter, ifs, 0⟩] scope pos) (some (.Name y py)) spos.line env = pure true)
    (hfree : ∀ y ∈ scope.names, y.2 ≠ .free) (hcell : ∀ y ∈ scope.names, y.2 ≠ .cell) (hkind : scope.kind = .function)
    (hnames : ∀ y ∈ scope.names, y.2 = .local → scope.names.lookup y.1 = some .local) (hx : scope.names.lookup x = some .local) (hs : ∀ x, foldedSetIterable iter env x = pure x)
    (hy : env.kindOf y = some .local) (hp : (env.scope.kind == .class || (env.scope.kind == .module && env.locals != env.globals)) = false) (hL : env.locals = L)
    (F : Fr g L s.heap m) (RA : ReadsAll g vs ds []) (hok : PyData.canLayAll0 ds = true) (hz : vs.length ≤ 2 ^ 20)
    (hit : wpAny (model PG w) A (eval iter env) (fun xv s₁ => wpAny (model PG w) A (pyIter xv) (Src w A s vs) E s₁) E s)
    (b : CompBody w A g L m s env scope x ifs elt ds t f)
    (N : News g L s.heap news) (done : ∀ D h' tk ys k, (∀ b o, b ≠ L → s.heap.get? b = some o → h'.get? b = some o) → Fr g L h' (fun z => if z = y then some (.ref D) else m z) → News g L h' ((D, listOf ys.toArray k) :: news) → (∀ p ∈ news, p.1 ≠ D) → ReadsAll g ys ((ds.filter t).map f) [] → Q .next { s with heap := h', toks := tk }) :
    wpAny (model PG w) A (exec (.Assign [.Name y py] (.ListComp elt [⟨.Name x px, iter, ifs, 0⟩] scope pos) spos) env) Q E s := by
  refine wpAny_Assign_ListComp_free (fun v => t (SeqAt.readOf g v)) (fun v y => Reads g y (f (SeqAt.readOf g v)) []) hsw (closureFor_none hfree) hcell hkind hnames hx hy hp (wpAny_mono hit (fun xv s₁ h₁ => wpAny_mono h₁ (fun it s₂ h₂ => ?_) fun _ _ e => e) fun _ _ e => e) hs
  obtain ⟨I, fp, St, rfl, W, hst, hfp, ⟨h, tk, rfl⟩, hk, hI⟩ := h₂
  subst hL
  refine ⟨I, fp, [I], _, _, St, m, rfl, W, by rw [sizeLine_eq]; omega, hst, hfp, ?_, (Keep.fr hk F).ns, comp_quiet F RA hok hk hI b, ?_⟩
  · intro hb
    obtain ⟨o, _, _, ho, _⟩ := F.ns
    rw [List.mem_singleton.mp hb, hI] at ho; cases ho
  intro D h' tk' ys vs' hD hl hpl hlen hP hF hns hkk
  have e : vs' = vs := List.ext_getElem? fun j => by
    cases hj : vs'[j]? with
    | some v => rw [hP j v hj]
    | none =>
      have : vs'.length ≤ j := List.getElem?_eq_none_iff.mp hj
      rw [List.getElem?_eq_none (by omega)]
  subst e
  obtain ⟨k, ho⟩ := hpl
  have hk' : ∀ b o, b ≠ env.locals → s.heap.get? b = some o → h'.get? b = some o := fun b o hb e => hkk b o hb (fun hb => by rw [List.mem_singleton.mp hb, hI] at e; cases e) (hk b o e)
  have hD' : s.heap.get? D = none := by
    cases q : s.heap.get? D with
    | none => rfl
    | some o => rw [hk D o q] at hD; cases hD
  have hg : g.get? D = none := by
    cases q : g.get? D with
    | none => rfl
    | some o => rw [F.keep D o q] at hD'; cases hD'
  have hDL : D ≠ env.locals := by
    rintro rfl
    obtain ⟨o, _, _, ho, _⟩ := F.ns
    rw [hD'] at ho; cases ho
  refine done D h' tk' ys.toList k hk' ⟨hns, fun b o e => hk' b o (fun hb => by
    have := Heap.lt_size e; rw [hb] at this; exact absurd (Nat.lt_of_lt_of_le this F.above) (Nat.lt_irrefl _)) (F.keep b o e), F.above⟩ (fun p hp => ?_) (fun p hp q => ?_) (paired_reads hok RA (fun _ => rfl) hF)
  · rcases List.mem_cons.mp hp with rfl | hp
    · exact ⟨by simpa [PySem.W.listOf] using ho, hDL, hg⟩
    · exact ⟨hk' _ _ (N p hp).2.1 (N p hp).1, (N p hp).2⟩
  · have := (N p hp).1; rw [q, hD'] at this; cases this
end
end Mine
namespace Mine
section
variable {w : World} {A : Around} {E : Value → Shared → Prop} {s : Shared} {g : Heap} {L D D2 : Addr} {m : Str → Option Value} {v : Value} {d : PyData} {ys ys2 : List Value} {zs zs2 : List PyData} {news : List (Addr × Obj)} {k k2 : Nat} {Q : Value → Shared → Prop}
theorem readsAll_keeps {h h' : Heap} {vs : List Value} {ds : List PyData} {as : List Addr} (r : ReadsAll h vs ds as) (k : Keep h h') : ReadsAll h' vs ds as := ReadsAll.keeps k r
theorem eqL (F : Fr g L s.heap m) (N : News g L s.heap news) (hD : (D, listOf ys.toArray k) ∈ news) (hE : (D2, listOf ys2.toArray k2) ∈ news) (RA : ReadsAll g ys zs []) (RB : ReadsAll g ys2 zs2 [])
    (ha : SeqAt.shaped (.list zs) = true) (hb : SeqAt.shaped (.list zs2) = true) (hu : A.units + 64 < cLine) (h : Q (.bool (PyData.eqvAll zs zs2)) s) : wpAny (model PG w) A (compareOp .Eq (.ref D) (.ref D2)) Q E s :=
  eq_dataH (reads_list_at (N.get hD) rfl rfl (by simpa [PySem.W.listOf] using readsAll_keeps RA F.keep)) (reads_list_at (N.get hE) rfl rfl (by simpa [PySem.W.listOf] using readsAll_keeps RB F.keep)) ha hb hu (by simpa [PyData.eqv] using h)
theorem neL (F : Fr g L s.heap m) (N : News g L s.heap news) (hD : (D, listOf ys.toArray k) ∈ news) (hE : (D2, listOf ys2.toArray k2) ∈ news) (RA : ReadsAll g ys zs []) (RB : ReadsAll g ys2 zs2 [])
    (ha : SeqAt.shaped (.list zs) = true) (hb : SeqAt.shaped (.list zs2) = true) (hu : A.units + 64 < cLine) (h : Q (.bool (!PyData.eqvAll zs zs2)) s) : wpAny (model PG w) A (compareOp .NotEq (.ref D) (.ref D2)) Q E s :=
  ne_dataH (reads_list_at (N.get hD) rfl rfl (by simpa [PySem.W.listOf] using readsAll_keeps RA F.keep)) (reads_list_at (N.get hE) rfl rfl (by simpa [PySem.W.listOf] using readsAll_keeps RB F.keep)) ha hb hu (by simpa [PyData.eqv] using h)
theorem eqvAll_nil (zs : List PyData) : PyData.eqvAll zs [] = zs.isEmpty := by cases zs <;> simp [PyData.eqvAll]
theorem eqNil (F : Fr g L s.heap m) (N : News g L s.heap news) (hE : (D2, listOf #[] k2) ∈ news) (RA : ReadsAll g ys zs []) (hD : (D, listOf ys.toArray k) ∈ news)
    (ha : SeqAt.shaped (.list zs) = true) (hu : A.units + 64 < cLine) (h : Q (.bool zs.isEmpty) s) : wpAny (model PG w) A (compareOp .Eq (.ref D) (.ref D2)) Q E s :=
  eqL (ys2 := []) F N hD hE RA .nil ha rfl hu (by rw [eqvAll_nil]; exact h)
theorem neNil (F : Fr g L s.heap m) (N : News g L s.heap news) (hE : (D2, listOf #[] k2) ∈ news) (RA : ReadsAll g ys zs []) (hD : (D, listOf ys.toArray k) ∈ news)
    (ha : SeqAt.shaped (.list zs) = true) (hu : A.units + 64 < cLine) (h : Q (.bool (!zs.isEmpty)) s) : wpAny (model PG w) A (compareOp .NotEq (.ref D) (.ref D2)) Q E s :=
  neL (ys2 := []) F N hD hE RA .nil ha rfl hu (by rw [eqvAll_nil]; exact h)
end
theorem readsNew1 {h₀ h : Heap} {L D : Addr} {m : Str → Option Value} {news : List (Addr × Obj)} {v : Value} {d : PyData} {k : Nat} (F : Fr h₀ L h m) (N : News h₀ L h news) (hm : (D, ({ cls := .type "tuple", data := .seq #[v] k } : Obj)) ∈ news) (R : Reads h₀ v d []) : Reads h (.ref D) (.tuple [d]) [] :=
  reads_tuple_at (as := []) (N.get hm) rfl rfl (ReadsAll.cons (as := []) (bs := []) (Reads.keeps F.keep R) .nil)
theorem depth_mem : ∀ {ds : List PyData} {d : PyData}, d ∈ ds → d.depth ≤ PyData.depthAll ds
  | x :: ds, d, hm => by
    simp only [PyData.depthAll]
    rcases List.mem_cons.mp hm with rfl | hm
    · omega
    · have := depth_mem hm; omega
theorem canLayAll_of : ∀ {ds : List PyData}, (∀ d ∈ ds, d.canLay0 = true) → PyData.canLayAll0 ds = true
  | [], _ => rfl
  | x :: ds, h => by simp only [PyData.canLayAll0, Bool.and_eq_true]; exact ⟨h x (.head _), canLayAll_of fun d hd => h d (.tail _ hd)⟩
theorem depthAll_of {n : Nat} : ∀ {ds : List PyData}, (∀ d ∈ ds, d.depth ≤ n) → PyData.depthAll ds ≤ n
  | [], _ => Nat.zero_le _
  | x :: ds, h => by
    simp only [PyData.depthAll]
    have := h x (.head _); have := depthAll_of fun d hd => h d (.tail _ hd); omega
noncomputable def good (n : Nat) (d : PyData) : Prop := d.canLay0 = true ∧ d.depth ≤ n ∧ sz d ≤ 1000
theorem good_kid {n k : Nat} {d : PyData} (h : good (n + 1) d) (hm : k ∈ List.range (kids d).length ∨ True) : ∀ e ∈ kids d, good n e := by
  intro e he
  cases d with
  | tuple xs =>
    obtain ⟨h1, h2, h3⟩ := h
    simp only [PyData.canLay0] at h1
    simp only [PyData.depth] at h2
    simp only [sz] at h3
    have a1 := depth_mem he
    have a2 := sz_mem he
    simp only [kids] at he a1 a2
    exact ⟨canLay_mem h1 he, by omega, by omega⟩
  | _ => simp [kids] at he
theorem good_kids {n : Nat} {d : PyData} (h : good (n + 1) d) : ∀ e ∈ kids d, good n e := good_kid (k := 0) h (.inr trivial)
theorem good_canAll {n : Nat} {ds : List PyData} (h : ∀ e ∈ ds, good n e) : PyData.canLayAll0 ds = true := canLayAll_of fun d hd => (h d hd).1
theorem good_shaped {n : Nat} {ds : List PyData} (h : ∀ e ∈ ds, good n e) (hn : n ≤ 60) : SeqAt.shaped (.list ds) = true := by
  simp only [SeqAt.shaped, PyData.canLay0, good_canAll h, PyData.depth, Bool.true_and]
  have := depthAll_of fun d hd => (h d hd).2.1
  exact decide_eq_true (by omega)
theorem good_filter {n : Nat} {ds : List PyData} {t : PyData → Bool} (h : ∀ e ∈ ds, good n e) : ∀ e ∈ ds.filter t, good n e := fun e he => h e (List.mem_filter.mp he).1
end Mine
namespace Mine
noncomputable def ascB : List Str → Bool
  | [] => true
  | [_] => true
  | [a, b] => ltCps a.cps.toList b.cps.toList
  | _ => false
theorem nat_list_asymm {a b : List Nat} (h : a < b) : ¬ b < a := List.lt_asymm h
theorem asc_eq {ss ss' : List Str} (hz : ss.length ≤ 2) (p : ss'.Perm ss.eraseDups) (hs : sortedS ss' = true) : decide (ss = ss') = ascB ss := by
  match ss, hz with
  | [], _ => simp at p; subst p; rfl
  | [a], _ =>
    have : ss' = [a] := by simpa [List.eraseDups_cons] using p
    subst this; simp [ascB]
  | [a, b], _ =>
    by_cases hab : a = b
    · subst hab
      have : ss' = [a] := by simpa [List.eraseDups_cons] using p
      subst this
      have h : ltCps a.cps.toList a.cps.toList = false := by rw [ltCps_eq]; simp [List.lt_irrefl]
      simp [ascB, h]
    · have e : [a, b].eraseDups = [a, b] := by
        have hb : (b == a) = false := by simpa using fun e : b = a => hab e.symm
        simp [List.eraseDups_cons, hb]
      rw [e] at p
      have hlen := p.length_eq
      match ss', hlen with
      | [x, y], _ =>
        have hx : x = a ∨ x = b := by simpa using p.mem_iff.mp (List.Mem.head _)
        have hs' : ltCps y.cps.toList x.cps.toList = false := by simpa [sortedS, risingS] using hs
        rcases hx with rfl | rfl
        · have hy : y = b := by
            have := (List.perm_cons x).mp p
            simpa using this
          subst hy
          rw [ltCps_eq] at hs'
          have hne : x.cps.toList ≠ y.cps.toList := fun q => hab (by cases x; cases y; simp at q; simp [q])
          have : x.cps.toList < y.cps.toList := by
            have h1 : ¬ y.cps.toList < x.cps.toList := by simpa using hs'
            rcases Decidable.em (x.cps.toList < y.cps.toList) with h | h
            · exact h
            · exact absurd (List.le_antisymm (List.not_lt.mp h1) (List.not_lt.mp h)) hne
          simp [ascB, ltCps_eq, this]
        · have hy : y = a := by
            have q : (x :: [y]).Perm (x :: [a]) := p.trans (List.Perm.swap x a [])
            have := (List.perm_cons x).mp q
            simpa using this
          subst hy
          have h1 : ¬ y.cps.toList < x.cps.toList := by rw [ltCps_eq] at hs'; simpa using hs'
          have : ([y, x] = [x, y]) = False := by simp [hab]
          simp [ascB, ltCps_eq, h1, hab]
theorem eraseDups_le2 {ss : List Str} (h : ss.length ≤ 2) : ss.eraseDups.length ≤ 2 := by
  match ss, h with
  | [], _ => simp
  | [a], _ => simp [List.eraseDups_cons]
  | [a, b], _ =>
    by_cases e : (b == a) = true
    · simp [List.eraseDups_cons, e]
    · simp [List.eraseDups_cons, e]
section
variable {w : World} {A : Around} {E : Value → Shared → Prop} {s : Shared} {g : Heap} {L D : Addr} {m : Str → Option Value} {ys : List Value} {ss : List Str} {news : List (Addr × Obj)} {k : Nat} {Q : Value → Shared → Prop}
theorem strs_reads {h : Heap} : ∀ {vs : List Value} {ss : List Str}, StrsAre vs ss → ReadsAll h vs (ss.map .str) []
  | _, _, .nil => .nil
  | _, _, .cons x t r => ReadsAll.cons (as := []) (.str x t) (strs_reads r)
theorem eqv_strs : ∀ a b : List Str, PyData.eqvAll (a.map .str) (b.map .str) = decide (a = b)
  | [], [] => by simp [PyData.eqvAll]
  | [], _ :: _ => by simp [PyData.eqvAll]
  | _ :: _, [] => by simp [PyData.eqvAll]
  | a :: r, b :: t => by
    simp only [List.map_cons, PyData.eqvAll, PyData.eqv, eqv_strs r t]
    by_cases h : a = b <;> by_cases h' : r = t <;> simp [h, h']
theorem shaped_strs {ss : List Str} (h : ∀ x ∈ ss, PyData.strOk x = true) : SeqAt.shaped (.list (ss.map .str)) = true := by
  have h1 : PyData.canLayAll0 (ss.map .str) = true := canLayAll_of fun d hd => by
    obtain ⟨x, hx, rfl⟩ := List.mem_map.mp hd
    simpa [PyData.canLay0] using h x hx
  have h2 : PyData.depthAll (ss.map .str) ≤ 0 := depthAll_of fun d hd => by
    obtain ⟨x, hx, rfl⟩ := List.mem_map.mp hd
    simp [PyData.depth]
  simp only [SeqAt.shaped, PyData.canLay0, h1, PyData.depth, Bool.true_and]
  exact decide_eq_true (by omega)
theorem eqNames {D2 : Addr} {vs : List Value} {ss' : List Str} {k2 : Nat} (F : Fr g L s.heap m) (N : News g L s.heap news) (hD : (D, listOf ys.toArray k) ∈ news) (hE : (D2, listOf vs.toArray k2) ∈ news) (S : StrsAre ys ss) (S' : StrsAre vs ss') (p : ss'.Perm ss.eraseDups) (hs : sortedS ss' = true)
    (ok : ∀ x ∈ ss, PyData.strOk x = true) (hz : ss.length ≤ 2) (hu : A.units + 64 < cLine) (h : Q (.bool (ascB ss)) s) : wpAny (model PG w) A (compareOp .Eq (.ref D) (.ref D2)) Q E s := by
  refine eqL F N hD hE (strs_reads S) (strs_reads S') (shaped_strs ok) (shaped_strs fun x hx => ok x (by simpa using p.mem_iff.mp hx)) hu ?_
  rw [eqv_strs, asc_eq hz p hs]
  exact h
end
end Mine
namespace Mine
open PySem.AutoSeq1 (wpAny_loadPart')
section
variable {prog : Program} {w : World} {A : Around} {E : Value → Shared → Prop} {s : Shared}
theorem nextOf_tuple_end {it t : Addr} {i : Nat} {items} {Q : Value → Shared → Prop} (hh : A.handled = none)
    (hit : IsTupIter s.heap it t i) (ht : IsTup s.heap t items) (hx : items[i]? = none)
    (hE : ∀ h' e, Heap.ExtBut it s.heap h' → (∃ o, h'.get? e = some o ∧ o.cls = .type "StopIteration") → E (.ref e) { s with heap := h' }) :
    wpAny (model prog w) A (Builtin.SmallTypes.nextOf (.ref it)) Q E s := by
  obtain ⟨o, ho, hc, hd⟩ := id hit
  obtain ⟨ol, hol, _, nl, hdl⟩ := ht
  unfold Builtin.SmallTypes.nextOf
  refine wpAny_bind (wpAny_callSpecial?_slot (name := Str.ofString "__next__") hit.typeIs slot_tupleiter_next
    (wpAny_call_entry slot_tupleiter_next hit.typeIs entry_tupleiter_next ?_ (args_tupleiter_next _)))
  show wpAny _ _ (field (.ref it) 0 >>= _) _ _ s
  refine wpAny_bind (wpAny_field ho hd (x := .ref t) rfl ?_)
  show wpAny _ _ (if (Value.ref t == Value.none) = true then _ else _) _ _ s
  rw [if_neg (show ¬ ((Value.ref t == Value.none) = true) from Bool.false_ne_true)]
  show wpAny _ _ (field (.ref it) 1 >>= _) _ _ s
  refine wpAny_bind (wpAny_field ho hd (x := .int i 0) rfl ?_)
  show wpAny _ _ (seqItems? (.ref t) >>= _) _ _ s
  refine wpAny_bind (wpAny_seqItems hol hdl ?_)
  simp only [Int.toNat_natCast, hx]
  refine wpAny_bind (wpAny_rule (wpAny_bind (wpAny_setField ho hd (by simp) ?_)))
  show wpAny _ _ (newExc (.type "StopIteration") [] >>= _) _ _ _
  refine wpAny_bind ?_
  simp only [newExc, newTuple]
  refine wpAny_bind (wpAny_newObj_type ?_ (by size_fits))
  refine wpAny_bind (m := firstArgMember _ _) (wpAny_of_eq (a := Value.none) (by first | rfl | (simp only [firstArgMember]; rfl)) ?_)
  refine wpAny_newObj_type ?_ (by size_fits)
  simp only [raiseNew]
  refine wpAny_bind (wpAny_handled ?_)
  first | rw [show A.in1.handled = none from hh] | rw [hh]
  refine wpAny_bind (wpAny_pure (wpAny_throw ?_))
  exact hE _ _ (((Heap.SameBut.update ..).extBut.push _).push _) ⟨_, Heap.get?_push_size _ rfl, rfl⟩
theorem pyNext_enumT_end {e it l : Addr} {i : Nat} {items : Array Value} {old : Value} {Q : Option Value → Shared → Prop} (hh : A.handled = none)
    (he : IsEnum s.heap e it i old) (hit : IsTupIter s.heap it l i) (hl : IsTup s.heap l items) (hx : items[i]? = none)
    (hQ : ∀ h', Heap.ExtBut it s.heap h' → Q none { s with heap := h' }) : wpAny (model prog w) A (pyNext (.ref e)) Q E s := by
  have hT : s.TypeIs (.ref e) "enumerate" := ⟨_, he, rfl⟩
  unfold pyNext
  refine wpAny_bind (wpAny_attempt (wpAny_callSpecial?_slot (name := Str.ofString "__next__") hT F.slot_enumerate_next
    (wpAny_call_entry F.slot_enumerate_next hT F.entry_enumerate_next ?_ (F.args_enumerate_next_1 _))))
  show wpAny _ _ (field (.ref e) 2 >>= _) _ _ _
  refine wpAny_bind (wpAny_field he rfl (x := .ref it) rfl ?_)
  refine wpAny_bind (nextOf_tuple_end hh hit hl hx fun h' x he' hx' => ?_)
  obtain ⟨o, ho, hc⟩ := hx'
  refine wpAny_bind (wpAny_isInstance (T := "StopIteration") (b := true) ⟨o, ho, hc⟩ isSubtype_stop ?_)
  exact wpAny_pure (hQ _ he')
theorem meets_enumerate_newT (l : Addr) (items : Array Value) (n : Nat) (dct : Option Addr) (sl : Array (Option Value)) :
    Meets (Builtin.«enumerate.__new__» ⟨[.type "enumerate", .ref l], []⟩) (fun _ R s => s.heap.get? l = some { cls := .type "tuple", dict := dct, data := .seq items n, slots := sl } ∧
      R (.ok (.ret (.ref (s.heap.push { cls := .type "tuple_iterator", data := .fields #[.ref l, .int 0 0] }).objs.size)))
        { s with heap := (s.heap.push { cls := .type "tuple_iterator", data := .fields #[.ref l, .int 0 0] }).push { cls := .type "enumerate", data := .fields #[.none, .bool false, .ref s.heap.objs.size, rawInt 0, .none, .none] } }) :=
  .of_wp fun prog w A R s h => by
    obtain ⟨hp, g, d, tk, os⟩ := s; obtain ⟨hl, h⟩ := h
    have hsub := sub_enumerate
    have hL : IsTup (Shared.heap ⟨hp, g, d, tk, os⟩) l items := ⟨_, hl, rfl, n, rfl⟩
    wp_walk using wpAny_loadPart' hl
    refine wpAny_stack_any fun st => wpAny_pure ?_
    split
    · rename_i c _ _ _ _ _
      cases (c == Value.type "enumerate")
      · wp_walk using wpAny_loadPart' hl, iter_tuple hL
        exact ⟨_, rfl, h⟩
      · wp_walk using wpAny_loadPart' hl, iter_tuple hL
        exact ⟨_, rfl, h⟩
    · wp_walk using wpAny_loadPart' hl, iter_tuple hL
      exact ⟨_, rfl, h⟩
theorem call_enumerate_tuple {l : Addr} {items : Array Value} {Q : Value → Shared → Prop} (hL : IsTup s.heap l items)
    (h : ∀ h', IsEnum h' (s.heap.objs.size + 1) s.heap.objs.size 0 .none → IsTupIter h' s.heap.objs.size l 0 → h'.objs.size = s.heap.objs.size + 2 →
      (∀ b o, s.heap.get? b = some o → h'.get? b = some o) → Q (.ref (s.heap.objs.size + 1)) { s with heap := h' }) :
    wpAny (model prog w) A (call (.type "enumerate") [.ref l]) Q E s := by
  obtain ⟨⟨c, dct, dt, sl⟩, hl, hc, n, hd⟩ := hL
  replace hc : c = .type "tuple" := hc
  replace hd : dt = .seq items n := hd
  subst hc hd
  refine callType_new F.called_enumerate (by decide) (F.typeCall_enumerate_1 _) (F.newCall_enumerate_1 _) (fun obj => F.args_object_init_2 obj _) F.entry_enumerate_new
    (meets_enumerate_newT l items n dct sl) ⟨hl, ?_⟩
  have hz : (s.heap.push { cls := .type "tuple_iterator", data := .fields #[.ref l, .int 0 0] }).objs.size = s.heap.objs.size + 1 := Heap.size_push ..
  show _ ∧ _
  rw [hz]
  have he : IsEnum ((s.heap.push { cls := .type "tuple_iterator", data := .fields #[.ref l, .int 0 0] }).push
      { cls := .type "enumerate", data := .fields #[.none, .bool false, .ref s.heap.objs.size, rawInt 0, .none, .none] }) (s.heap.objs.size + 1) s.heap.objs.size 0 .none := by
    have := Heap.get?_push_size (s.heap.push { cls := .type "tuple_iterator", data := .fields #[.ref l, .int 0 0] })
      (o := { cls := .type "enumerate", data := .fields #[.none, .bool false, .ref s.heap.objs.size, rawInt 0, .none, .none] }) rfl
    rw [hz] at this; exact this
  refine ⟨⟨_, he, rfl⟩, h _ he ⟨_, Heap.get?_push_of_some _ (Heap.get?_push_size _ rfl), rfl, rfl⟩ (by rw [Heap.size_push, hz]) fun b o x => Heap.get?_push_of_some _ (Heap.get?_push_of_some _ x)⟩
end
section
variable {w : World} {A : Around} {E : Value → Shared → Prop} {s : Shared} {g : Heap} {L : Addr} {m : Str → Option Value} {env : Env} {news : List (Addr × Obj)}
noncomputable def EnumT0 (h₀ : Heap) (xv : Value) (s₁ : Shared) : Prop :=
  ∃ e it T, xv = .ref e ∧ IsEnum s₁.heap e it 0 .none ∧ IsTupIter s₁.heap it T 0 ∧ IsTup s₁.heap T #[] ∧ h₀.get? it = none ∧ Keep h₀ s₁.heap
theorem enumT {l : Addr} {Q : Value → Shared → Prop} (F : Fr g L s.heap m) (N : News g L s.heap news) (hm : (l, ({ cls := .type "tuple", data := .seq #[] } : Obj)) ∈ news)
    (h : ∀ e h', Fr g L h' m → News g L h' news → (∀ h₀, Keep h₀ s.heap → EnumT0 h₀ (.ref e) { s with heap := h' }) → Q (.ref e) { s with heap := h' }) : wpAny (model PG w) A (call (.type "enumerate") [.ref l]) Q E s := by
  have ht : IsTup s.heap l #[] := ⟨_, N.get hm, rfl, _, rfl⟩
  refine call_enumerate_tuple ht fun h' he hit hsz hk => ?_
  refine h _ _ (Keep.fr hk F) (Keep.news hk N) fun h₀ k => ⟨_, _, _, rfl, he, hit, ?_, ?_, Keep.trans k hk⟩
  · obtain ⟨o, ho, r⟩ := ht; exact ⟨o, hk _ _ ho, r⟩
  · cases q : h₀.get? s.heap.objs.size with
    | none => rfl
    | some o => have := k _ _ q; rw [none_size] at this; cases this
theorem compNone {elts : List PySem.Expr} {kk : Nat} {tp : Pos} {elt iter : PySem.Expr} {scope : Scope} {cl : List (Str × Addr)} {pos : Pos} {Q : Value → Shared → Prop} (hh : A.handled = none)
    (hclos : closureFor scope env = pure cl) (hcell : ∀ y ∈ scope.names, y.2 ≠ .cell) (hkind : scope.kind = .function)
    (hnames : ∀ y ∈ scope.names, y.2 = .local → scope.names.lookup y.1 = some .local) (hs : ∀ x, foldedSetIterable iter env x = pure x)
    (F : Fr g L s.heap m) (N : News g L s.heap news)
    (hit : wpAny (model PG w) A (eval iter env) (fun xv s₁ => EnumT0 s.heap xv s₁ ∧ ∃ h tk dr, s₁ = { s with heap := h, toks := tk, drawn := dr }) E s)
    (done : ∀ D h' tk dr k, Fr g L h' m → News g L h' ((D, listOf #[] k) :: news) → (∀ p ∈ news, @Ne Nat p.1 D) → Keep s.heap h' → Q (.ref D) { s with heap := h', toks := tk, drawn := dr }) :
    wpAny (model PG w) A (eval (.ListComp elt [⟨.Tuple elts kk tp, iter, [], 0⟩] scope pos) env) Q E s := by
  rw [eval_ListComp]
  refine wpAny_comprehension_free (use := none) rfl hs hclos hkind hnames (wpAny_mono hit (fun xv s₁ h₁ => ?_) fun _ _ e => e)
  obtain ⟨⟨e, it, T, rfl, he, hi, hT, hit0, hk⟩, h, tk, dr, rfl⟩ := h₁
  dsimp only at he hi hT hk
  refine wpAny_pyIter_enum he ?_
  refine wpAny_newObj_type (wpAny_newFunctionEnv hcell (by intro y hy; simp at hy) (fun h₁ hns₁ hsb₁ => ?_) hkind)
  dsimp only at hns₁ hsb₁ ⊢
  generalize hH2 : h.push { cls := .type "list", dict := none, data := .seq ([] : List Value).toArray } = H2 at hns₁ hsb₁ ⊢
  have hC : H2.objs.size = h.objs.size + 1 := by rw [← hH2, Heap.size_push]
  have hDC : h.objs.size ≠ H2.objs.size := by rw [hC]; exact Nat.ne_of_lt (Nat.lt_succ_self _)
  have below : ∀ b, b < h.objs.size → b ≠ H2.objs.size := fun b hb => by rw [hC]; exact Nat.ne_of_lt (Nat.lt_succ_of_lt hb)
  have old : Keep h h₁ := fun b o e => hsb₁.extBut b o (below b (Heap.lt_size e)) (Heap.get?_push_of_some _ (hH2 ▸ Heap.get?_push_of_some _ e))
  have hacc : h₁.get? h.objs.size = some (listOf #[] 0) := hsb₁.extBut _ _ hDC (Heap.get?_push_of_some _ (hH2 ▸ Heap.get?_push_size _ rfl))
  have he1 := old _ _ he
  have hi1 : IsTupIter h₁ it T 0 := by obtain ⟨o, ho, r⟩ := hi; exact ⟨o, old _ _ ho, r⟩
  have hT1 : IsTup h₁ T #[] := by obtain ⟨o, ho, r⟩ := hT; exact ⟨o, old _ _ ho, r⟩
  have loop : ∀ s₃ : Shared, s₃ = { s with heap := h₁, toks := tk + ([] : List (Str × Value)).length, drawn := dr } →
      codeAny (model PG w) A (.compLoop (.ListComp elt [⟨.Tuple elts kk tp, iter, [], 0⟩] scope pos) 0 (.ref e) (.ref h.objs.size) (compEnvC scope cl H2.objs.size env))
        (compPost (model PG w) A E none Q (.ref h.objs.size) H2.objs.size) s₃ := by
    rintro s₃ rfl
    refine kcp_loop (fun n s' => s' = { s with heap := h₁, toks := tk + ([] : List (Str × Value)).length, drawn := dr }) ?_ 0 rfl
    rintro n s' rfl
    refine pyNext_enumT_end (items := #[]) (i := 0) hh he1 hi1 hT1 rfl fun h₂ hx => ?_
    have hkk : ∀ b o, b ≠ it → h.get? b = some o → h₂.get? b = some o := fun b o hb e => hx b o hb (old _ _ e)
    refine ⟨_, hns₁.at' fun o e => hx _ o (Ne.symm (below _ (by obtain ⟨o, ho, _⟩ := hi; exact Heap.lt_size ho))) e, fun h₃ hs₃ => ?_⟩
    have hDit : h.objs.size ≠ it := by obtain ⟨o, ho, _⟩ := hi; exact Ne.symm (Nat.ne_of_lt (Heap.lt_size ho))
    have hD3 : h₃.get? h.objs.size = some (listOf #[] 0) := hs₃.extBut _ _ hDC (hx _ _ hDit hacc)
    have hk3 : Keep s.heap h₃ := fun b o e => hs₃.extBut b o (below b (Heap.lt_size (hk _ _ e))) (hkk b o (by rintro rfl; rw [hit0] at e; cases e) (hk _ _ e))
    have hsD : s.heap.get? h.objs.size = none := by
      cases q : s.heap.get? h.objs.size with
      | none => rfl
      | some o => have := hk _ _ q; rw [none_size] at this; cases this
    exact done _ _ _ _ 0 (Keep.fr hk3 F) (newsAdd F (Keep.news hk3 N) hD3 hsD) (newsNe N hsD) hk3
  exact codeAny_compStart_list (loop _ rfl) (wpAny_pyIter_enum he1 (loop _ rfl))
end
end Mine
namespace Mine
noncomputable def Ex (base h : Heap) (l : List Env) (e : Addr) (c : Value) (d : Option Addr) (fl : Value) : Prop :=
  base.StaysIn h ∧ base.get? e = none ∧ h.FunFrames base l ∧
    ∃ oe vs T oT ts, h.get? e = some oe ∧ oe.cls = c ∧ oe.dict = d ∧ oe.data = .fields vs ∧ vs[1]? = some (.ref T) ∧ base.get? T = none ∧ T ≠ e ∧ h.get? T = some oT ∧ oT.data = .fields ts ∧ ts[3]? = some fl
theorem Ex.pop {base h : Heap} {env : Env} {l : List Env} {e : Addr} {c : Value} {d : Option Addr} {fl : Value} (x : Ex base h (env :: l) e c d fl) : Ex base h l e c d fl :=
  let ⟨a, b, ⟨_, _, k⟩, r⟩ := x; ⟨a, b, k, r⟩
theorem dict_mapFields (f : Array Value → Array Value) (o : Obj) : (o.mapFields f).dict = o.dict := by
  obtain ⟨c, d, dt, sl⟩ := o
  cases dt <;> rfl
section
variable {M : Model} {A : Around} {E : Value → Shared → Prop} {s : Shared}
theorem ex_enter {base : Heap} {env : Env} {outer : List Env} {L e : Addr} {oe : Obj} {vs : Array Value} {head : Value} {hadNext : Bool} {Q : Unit → Shared → Prop}
    (hfr : A.frames = some (env :: outer)) (hl : s.heap.FunFrames base (env :: outer)) (hf : env.frame = some L)
    (he : s.heap.get? e = some oe) (hkb : base.StaysIn s.heap) (hen : base.get? e = none) (hd : oe.data = .fields vs) (hsz : 1 < vs.size)
    (h : ∀ h', Ex base h' (env :: outer) e oe.cls oe.dict (rawInt L) → s.heap.UpToSlots h' → Q () { s with heap := h' }) :
    wpAny M A (do let a ← frameOf env; let pl ← entryPlaceOf L hadNext; let b ← EntryCells.newEntry head a .none (rawInt L) .none pl; setField (.ref e) 1 b) Q E s := by
  have off : e ∉ (env :: outer).filterMap (·.frame) := fun hm => by
    obtain ⟨_, o, ho, hnf⟩ := hl.mem hm
    rw [he] at ho; injection ho with ho; subst ho; exact hnf vs hd
  refine wpAny_bind (wpAny_frameOf_fun hfr hl hf fun h₁ hs => ?_)
  refine wpAny_bind (wpAny_entryPlaceOf fun pl hpl => ?_)
  unfold EntryCells.newEntry newFields
  refine wpAny_bind (wpAny_newObj_type ?_ (hpl.sizeOk5 _ _ _ _ _))
  have he₁ : h₁.get? e = some oe := (hs.2.1 e off).trans he
  have kb : base.StaysIn h₁ := fun b o hbo => (hs.2.1 b fun hm => by rw [(hl.mem hm).1] at hbo; cases hbo).trans (hkb b o hbo)
  generalize hob : ({ cls := .type "traceback", dict := none, data := .fields ([head, .ref L, .none, rawInt L, .none] ++ (if pl.isEmpty then List.replicate 6 Value.none else pl)).toArray } : Obj) = ob
  have he₂ := Heap.get?_push_of_some (h := h₁) ob he₁
  refine wpAny_setField he₂ hd hsz ?_
  have hTe : h₁.objs.size ≠ e := Nat.ne_of_gt (Heap.lt_size he₁)
  have hfre : ob.isFreed = false := by rw [← hob]; rfl
  have keep : ∀ b o, b ≠ e → h₁.get? b = some o → ((h₁.push ob).update e (Obj.mapFields (·.setIfInBounds 1 (Value.ref h₁.objs.size)))).get? b = some o := fun b o hbe hb => by
    rw [Heap.get?_update_other _ _ (Ne.symm hbe)]; exact Heap.get?_push_of_some _ hb
  have noRec : ∀ b o, s.heap.get? b = some o → (∀ vs, o.data ≠ .fields vs) → b ≠ e := fun b o hb hnf q => by
    rw [q, he] at hb; injection hb with hb; subst hb; exact hnf vs hd
  have hd₃ := Obj.data_mapFields hd (·.setIfInBounds 1 (Value.ref h₁.objs.size))
  have he₃ := Heap.get?_update_self (Obj.mapFields (·.setIfInBounds 1 (Value.ref h₁.objs.size))) he₂ (Obj.isFreed_of_fields hd₃)
  have hT₃ := (Heap.get?_update_other (h₁.push ob) (Obj.mapFields (·.setIfInBounds 1 (Value.ref h₁.objs.size))) (Ne.symm hTe)).trans (Heap.get?_push_size h₁ hfre)
  refine h _ ⟨fun b o hbo => keep b o (fun q => by rw [q, hen] at hbo; cases hbo) (kb b o hbo), hen, hl.of_keeps fun b o hb hnf => ?_, ?_⟩ fun b o hb hnf => ?_
  · obtain ⟨sl, hsl⟩ := hs.2.2 b o hb
    exact ⟨_, keep b _ (noRec b o hb hnf) hsl, rfl⟩
  · refine ⟨_, _, h₁.objs.size, _, _, he₃, Obj.cls_mapFields _ _, dict_mapFields _ _, hd₃, by simp [hsz], kb.fresh, hTe, hT₃, by rw [← hob], ?_⟩
    simp
  · obtain ⟨sl, hsl⟩ := hs.2.2 b o hb
    exact ⟨sl, keep b _ (noRec b o hb hnf) hsl⟩
theorem ex_note1 {base : Heap} {env : Env} {outer : List Env} {L e : Addr} {oe : Obj} {vs : Array Value} {Q : Unit → Shared → Prop}
    (hfr : A.frames = some (env :: outer)) (hl : s.heap.FunFrames base (env :: outer)) (hf : env.frame = some L)
    (he : s.heap.get? e = some oe) (hkb : base.StaysIn s.heap) (hen : base.get? e = none) (hd : oe.data = .fields vs) (h1 : vs[1]? = some .none)
    (h : ∀ h', Ex base h' (env :: outer) e oe.cls oe.dict (rawInt L) → s.heap.UpToSlots h' → Q () { s with heap := h' }) : wpAny M A (noteFrame (.ref e) env) Q E s := by
  unfold noteFrame
  simp only [hf]
  refine wpAny_bind (wpAny_field he hd h1 ?_)
  rw [if_neg (by decide)]
  exact ex_enter hfr hl hf he hkb hen hd (Array.getElem?_eq_some_iff.mp h1).1 h
theorem ex_note {base : Heap} {env : Env} {outer : List Env} {L e : Addr} {c : Value} {d : Option Addr} {fl : Value} {Q : Unit → Shared → Prop}
    (hfr : A.frames = some (env :: outer)) (hf : env.frame = some L) (x : Ex base s.heap (env :: outer) e c d fl) (hne : (fl == rawInt L) = false)
    (h : ∀ h', Ex base h' (env :: outer) e c d (rawInt L) → s.heap.UpToSlots h' → Q () { s with heap := h' }) : wpAny M A (noteFrame (.ref e) env) Q E s := by
  obtain ⟨hkb, hen, hl, oe, vs, T, oT, ts, he, rfl, rfl, hd, h1, hnT, hTe, hT, hdT, h3⟩ := x
  unfold noteFrame
  simp only [hf]
  refine wpAny_bind (wpAny_field he hd h1 ?_)
  rw [if_pos (show (Value.ref T != Value.none) = true from by simp)]
  refine wpAny_bind (wpAny_field hT hdT h3 ?_)
  rw [if_neg (by rw [hne]; exact Bool.false_ne_true)]
  refine wpAny_bind (wpAny_setField hT hdT (Array.getElem?_eq_some_iff.mp h3).1 ?_)
  have other : ∀ b, b ≠ T → (s.heap.update T (Obj.mapFields (·.setIfInBounds 3 Value.none))).get? b = s.heap.get? b := fun b hb => Heap.get?_update_other _ _ (Ne.symm hb)
  have noRec : ∀ b o, s.heap.get? b = some o → (∀ vs, o.data ≠ .fields vs) → b ≠ T := fun b o hb hnf q => by
    rw [q, hT] at hb; injection hb with hb; subst hb; exact hnf ts hdT
  exact ex_enter hfr (hl.of_keeps fun b o hb hnf => ⟨o, (other b (noRec b o hb hnf)).trans hb, rfl⟩) hf ((other e (Ne.symm hTe)).trans he)
    (fun b o hbo => (other b fun q => by rw [q, hnT] at hbo; cases hbo).trans (hkb b o hbo)) hen hd (Array.getElem?_eq_some_iff.mp h1).1
    fun h' x u => h h' x fun b o hb hnf => u b o ((other b (noRec b o hb hnf)).trans hb) hnf
theorem ex_again {base : Heap} {env : Env} {l : List Env} {L e : Addr} {c : Value} {d : Option Addr} {Q : Unit → Shared → Prop}
    (hf : env.frame = some L) (x : Ex base s.heap l e c d (rawInt L)) (h : Q () s) : wpAny M A (noteFrame (.ref e) env) Q E s := by
  obtain ⟨hkb, hen, hl, oe, vs, T, oT, ts, he, rfl, rfl, hd, h1, hnT, hTe, hT, hdT, h3⟩ := x
  unfold noteFrame
  simp only [hf]
  refine wpAny_bind (wpAny_field he hd h1 ?_)
  rw [if_pos (show (Value.ref T != Value.none) = true from by simp)]
  refine wpAny_bind (wpAny_field hT hdT h3 ?_)
  rw [if_pos (show (rawInt L == rawInt L) = true from by simp)]
  exact wpAny_pure h
theorem ex_flight {base : Heap} {l : List Env} {e : Addr} {c : Value} {d : Option Addr} {fl : Value} {fr : Option Addr} {Q : Unit → Shared → Prop} (x : Ex base s.heap l e c d fl)
    (h : ∀ h', Ex base h' l e c d (fr.elim .none fun f => rawInt f) → s.heap.UpToSlots h' → Q () { s with heap := h' }) : wpAny M A (setFlight (.ref e) fr) Q E s := by
  obtain ⟨hkb, hen, hl, oe, vs, T, oT, ts, he, rfl, rfl, hd, h1, hnT, hTe, hT, hdT, h3⟩ := x
  have hsz : 3 < ts.size := (Array.getElem?_eq_some_iff.mp h3).1
  have other : ∀ b, b ≠ T → (s.heap.update T (Obj.mapFields (·.setIfInBounds 3 (fr.elim Value.none fun f => rawInt f)))).get? b = s.heap.get? b := fun b hb => Heap.get?_update_other _ _ (Ne.symm hb)
  have noRec : ∀ b o, s.heap.get? b = some o → (∀ vs, o.data ≠ .fields vs) → b ≠ T := fun b o hb hnf q => by
    rw [q, hT] at hb; injection hb with hb; subst hb; exact hnf ts hdT
  unfold setFlight
  refine wpAny_bind (wpAny_field he hd h1 ?_)
  rw [if_pos (show (Value.ref T != Value.none) = true from by simp)]
  refine wpAny_setField hT hdT hsz (h _ ⟨fun b o hbo => (other b fun q => by rw [q, hnT] at hbo; cases hbo).trans (hkb b o hbo), hen,
    hl.of_keeps fun b o hb hnf => ⟨o, (other b (noRec b o hb hnf)).trans hb, rfl⟩, ?_⟩ fun b o hb hnf => ⟨o.slots, (other b (noRec b o hb hnf)).trans hb⟩)
  exact ⟨oe, vs, T, _, _, (other e (Ne.symm hTe)).trans he, rfl, rfl, hd, h1, hnT, hTe, Heap.get?_update_self _ hT (Obj.isFreed_of_fields (Obj.data_mapFields hdT _)), Obj.data_mapFields hdT _, by simp [hsz]⟩
theorem ex_leave1 {base : Heap} {env : Env} {outer : List Env} {L e : Addr} {oe : Obj} {vs : Array Value} {Q : Unit → Shared → Prop}
    (hfr : A.frames = some (env :: outer)) (hl : s.heap.FunFrames base (env :: outer)) (hf : env.frame = some L)
    (he : s.heap.get? e = some oe) (hkb : base.StaysIn s.heap) (hen : base.get? e = none) (hd : oe.data = .fields vs) (h1 : vs[1]? = some .none)
    (h : ∀ h', Ex base h' outer e oe.cls oe.dict .none → s.heap.UpToSlots h' → Q () { s with heap := h' }) : wpAny M A (leaving env (.ref e)) Q E s := by
  unfold leaving
  refine wpAny_bind (ex_note1 hfr hl hf he hkb hen hd h1 fun h₁ x₁ u₁ => ?_)
  exact ex_flight (s := { s with heap := h₁ }) x₁ fun h₂ x₂ u₂ => h h₂ x₂.pop (u₁.trans u₂)
theorem ex_leaveAgain {base : Heap} {env : Env} {outer : List Env} {L e : Addr} {c : Value} {d : Option Addr} {Q : Unit → Shared → Prop}
    (hf : env.frame = some L) (x : Ex base s.heap (env :: outer) e c d (rawInt L))
    (h : ∀ h', Ex base h' outer e c d .none → s.heap.UpToSlots h' → Q () { s with heap := h' }) : wpAny M A (leaving env (.ref e)) Q E s := by
  unfold leaving
  refine wpAny_bind (ex_again hf x ?_)
  exact ex_flight x fun h₂ x₂ u₂ => h h₂ x₂.pop u₂
theorem ex_back {base : Heap} {l : List Env} {env : Env} {e : Addr} {c : Value} {d : Option Addr} {fl : Value} {E' : Value → Shared → Prop} (x : Ex base s.heap l e c d fl)
    (h : ∀ h', Ex base h' l e c d (env.frame.elim .none fun f => rawInt f) → s.heap.UpToSlots h' → E' (.ref e) { s with heap := h' }) : cameBackBy M A env E' (.ref e) s := by
  have x' := x
  obtain ⟨hkb, hen, hl, oe, vs, T, oT, ts, he, rfl, rfl, hd, h1, hnT, hTe, hT, hdT, h3⟩ := x
  unfold cameBackBy
  refine wpAny_bind (wpAny_field he hd h1 ?_)
  rw [if_neg (by simp)]
  exact ex_flight x' h
end
end Mine
namespace Mine
section
variable {prog : Program} {w : World} {A : Around} {E : Value → Shared → Prop} {h : Heap} {g : Array GenState} {d : Drawn} {t : Nat} {os : OsState}
variable {nm q : Str} {C N : Addr} {bs bm : List Value} {hdct : Bool} {sn : List Str} {sub : List Value} {ab : Bool} {col : Option Bool} {dd : Option Addr} {k0 k1 k2 k3 k5 : Option Value}
structure Above (bm : List Value) : Prop where
  hasE : bm.contains (.type "Exception") = true
  hasB : bm.contains (.type "BaseException") = true
  noA : bm.contains (.type "AttributeError") = false
  noN : bm.contains (.type "NameError") = false
end
namespace own_checkNew_n
noncomputable def Wk (A : Around) (E : Value → Shared → Prop) (h : Heap) (g : Array GenState) (d : Drawn) (t : Nat) (os : OsState) (nm : Str) (q : Str) (C : Addr) (N : Addr) (bs : List Value) (bm : List Value) (hdct : Bool) (sn : List Str) (sub : List Value) (ab : Bool) (col : Option Bool) (dd : Option Addr) (k0 : Option Value) (k1 : Option Value) (k2 : Option Value) (k3 : Option Value) (k5 : Option Value) (rest : List Value) (Q : Unit → Shared → Prop) (M : Model) : Prop := ∀  (V : Above bm) (hC : h.get? C = some (excClassObj nm q C N bs bm hdct sn sub ab col dd k0 k1 k2 k3 k5 "Exception.__new__")) (hq : Q () ⟨h, g, d, t, os⟩), wpAny M A (checkBuiltinCall "Exception.__new__" ⟨.ref C :: rest, []⟩) Q E ⟨h, g, d, t, os⟩
theorem inhab : Nonempty ((Around) × (Value → Shared → Prop) × (Heap) × (Array GenState) × (Drawn) × (Nat) × (OsState) × (Str) × (Str) × (Addr) × (Addr) × (List Value) × (List Value) × (Bool) × (List Str) × (List Value) × (Bool) × (Option Bool) × (Option Addr) × (Option Value) × (Option Value) × (Option Value) × (Option Value) × (Option Value) × (List Value) × (Unit → Shared → Prop) × (Model)) := ⟨(({}), (fun _ _ => True), ({}), (default), ({}), (0), ({}), (Str.ofString "a"), (Str.ofString "a"), (0), (0), (default), (default), (true), (default), (default), (true), (none), (none), (none), (none), (none), (none), (none), (default), (fun _ _ => True), (model PG (aWorld 1)))⟩
noncomputable def cc : (Around) × (Value → Shared → Prop) × (Heap) × (Array GenState) × (Drawn) × (Nat) × (OsState) × (Str) × (Str) × (Addr) × (Addr) × (List Value) × (List Value) × (Bool) × (List Str) × (List Value) × (Bool) × (Option Bool) × (Option Addr) × (Option Value) × (Option Value) × (Option Value) × (Option Value) × (Option Value) × (List Value) × (Unit → Shared → Prop) × (Model) := pickA inhab fun c => Wk c.1 c.2.1 c.2.2.1 c.2.2.2.1 c.2.2.2.2.1 c.2.2.2.2.2.1 c.2.2.2.2.2.2.1 c.2.2.2.2.2.2.2.1 c.2.2.2.2.2.2.2.2.1 c.2.2.2.2.2.2.2.2.2.1 c.2.2.2.2.2.2.2.2.2.2.1 c.2.2.2.2.2.2.2.2.2.2.2.1 c.2.2.2.2.2.2.2.2.2.2.2.2.1 c.2.2.2.2.2.2.2.2.2.2.2.2.2.1 c.2.2.2.2.2.2.2.2.2.2.2.2.2.2.1 c.2.2.2.2.2.2.2.2.2.2.2.2.2.2.2.1 c.2.2.2.2.2.2.2.2.2.2.2.2.2.2.2.2.1 c.2.2.2.2.2.2.2.2.2.2.2.2.2.2.2.2.2.1 c.2.2.2.2.2.2.2.2.2.2.2.2.2.2.2.2.2.2.1 c.2.2.2.2.2.2.2.2.2.2.2.2.2.2.2.2.2.2.2.1 c.2.2.2.2.2.2.2.2.2.2.2.2.2.2.2.2.2.2.2.2.1 c.2.2.2.2.2.2.2.2.2.2.2.2.2.2.2.2.2.2.2.2.2.1 c.2.2.2.2.2.2.2.2.2.2.2.2.2.2.2.2.2.2.2.2.2.2.1 c.2.2.2.2.2.2.2.2.2.2.2.2.2.2.2.2.2.2.2.2.2.2.2.1 c.2.2.2.2.2.2.2.2.2.2.2.2.2.2.2.2.2.2.2.2.2.2.2.2.1 c.2.2.2.2.2.2.2.2.2.2.2.2.2.2.2.2.2.2.2.2.2.2.2.2.2.1 c.2.2.2.2.2.2.2.2.2.2.2.2.2.2.2.2.2.2.2.2.2.2.2.2.2.2
@[irreducible] noncomputable def A : Around := cc.1
@[irreducible] noncomputable def E : Value → Shared → Prop := cc.2.1
@[irreducible] noncomputable def h : Heap := cc.2.2.1
@[irreducible] noncomputable def g : Array GenState := cc.2.2.2.1
@[irreducible] noncomputable def d : Drawn := cc.2.2.2.2.1
@[irreducible] noncomputable def t : Nat := cc.2.2.2.2.2.1
@[irreducible] noncomputable def os : OsState := cc.2.2.2.2.2.2.1
@[irreducible] noncomputable def nm : Str := cc.2.2.2.2.2.2.2.1
@[irreducible] noncomputable def q : Str := cc.2.2.2.2.2.2.2.2.1
@[irreducible] noncomputable def C : Addr := cc.2.2.2.2.2.2.2.2.2.1
@[irreducible] noncomputable def N : Addr := cc.2.2.2.2.2.2.2.2.2.2.1
@[irreducible] noncomputable def bs : List Value := cc.2.2.2.2.2.2.2.2.2.2.2.1
@[irreducible] noncomputable def bm : List Value := cc.2.2.2.2.2.2.2.2.2.2.2.2.1
@[irreducible] noncomputable def hdct : Bool := cc.2.2.2.2.2.2.2.2.2.2.2.2.2.1
@[irreducible] noncomputable def sn : List Str := cc.2.2.2.2.2.2.2.2.2.2.2.2.2.2.1
@[irreducible] noncomputable def sub : List Value := cc.2.2.2.2.2.2.2.2.2.2.2.2.2.2.2.1
@[irreducible] noncomputable def ab : Bool := cc.2.2.2.2.2.2.2.2.2.2.2.2.2.2.2.2.1
@[irreducible] noncomputable def col : Option Bool := cc.2.2.2.2.2.2.2.2.2.2.2.2.2.2.2.2.2.1
@[irreducible] noncomputable def dd : Option Addr := cc.2.2.2.2.2.2.2.2.2.2.2.2.2.2.2.2.2.2.1
@[irreducible] noncomputable def k0 : Option Value := cc.2.2.2.2.2.2.2.2.2.2.2.2.2.2.2.2.2.2.2.1
@[irreducible] noncomputable def k1 : Option Value := cc.2.2.2.2.2.2.2.2.2.2.2.2.2.2.2.2.2.2.2.2.1
@[irreducible] noncomputable def k2 : Option Value := cc.2.2.2.2.2.2.2.2.2.2.2.2.2.2.2.2.2.2.2.2.2.1
@[irreducible] noncomputable def k3 : Option Value := cc.2.2.2.2.2.2.2.2.2.2.2.2.2.2.2.2.2.2.2.2.2.2.1
@[irreducible] noncomputable def k5 : Option Value := cc.2.2.2.2.2.2.2.2.2.2.2.2.2.2.2.2.2.2.2.2.2.2.2.1
@[irreducible] noncomputable def rest : List Value := cc.2.2.2.2.2.2.2.2.2.2.2.2.2.2.2.2.2.2.2.2.2.2.2.2.1
@[irreducible] noncomputable def Q : Unit → Shared → Prop := cc.2.2.2.2.2.2.2.2.2.2.2.2.2.2.2.2.2.2.2.2.2.2.2.2.2.1
@[irreducible] noncomputable def M : Model := cc.2.2.2.2.2.2.2.2.2.2.2.2.2.2.2.2.2.2.2.2.2.2.2.2.2.2
theorem here : Wk A E h g d t os nm q C N bs bm hdct sn sub ab col dd k0 k1 k2 k3 k5 rest Q M := by
  unfold Wk
  intro  V hC hq
  have F := PySem.F.excBase_Exception
  have hcont : (Value.ref C :: bm).contains (.type "Exception") = true := by rw [List.contains_cons, V.hasE, Bool.or_true]
  have hstar := F.noStar
  simp only [checkBuiltinCall, F.newKind, F.newSplit, F.newRow]
  repeat (first | refine wpAny_loadPart_at hC ?_ | (refine wpAny_isSubtype_exc hC ?_; rw [hcont]) | refine wpAny_staticBase_exc hC ?_ | refine wpAny_madeBy_exc hC ?_ | simp only [bne_self_eq_false, Bool.false_eq_true, if_false] | wp_step)
  exact hq
theorem all : ∀ c : (Around) × (Value → Shared → Prop) × (Heap) × (Array GenState) × (Drawn) × (Nat) × (OsState) × (Str) × (Str) × (Addr) × (Addr) × (List Value) × (List Value) × (Bool) × (List Str) × (List Value) × (Bool) × (Option Bool) × (Option Addr) × (Option Value) × (Option Value) × (Option Value) × (Option Value) × (Option Value) × (List Value) × (Unit → Shared → Prop) × (Model), Wk c.1 c.2.1 c.2.2.1 c.2.2.2.1 c.2.2.2.2.1 c.2.2.2.2.2.1 c.2.2.2.2.2.2.1 c.2.2.2.2.2.2.2.1 c.2.2.2.2.2.2.2.2.1 c.2.2.2.2.2.2.2.2.2.1 c.2.2.2.2.2.2.2.2.2.2.1 c.2.2.2.2.2.2.2.2.2.2.2.1 c.2.2.2.2.2.2.2.2.2.2.2.2.1 c.2.2.2.2.2.2.2.2.2.2.2.2.2.1 c.2.2.2.2.2.2.2.2.2.2.2.2.2.2.1 c.2.2.2.2.2.2.2.2.2.2.2.2.2.2.2.1 c.2.2.2.2.2.2.2.2.2.2.2.2.2.2.2.2.1 c.2.2.2.2.2.2.2.2.2.2.2.2.2.2.2.2.2.1 c.2.2.2.2.2.2.2.2.2.2.2.2.2.2.2.2.2.2.1 c.2.2.2.2.2.2.2.2.2.2.2.2.2.2.2.2.2.2.2.1 c.2.2.2.2.2.2.2.2.2.2.2.2.2.2.2.2.2.2.2.2.1 c.2.2.2.2.2.2.2.2.2.2.2.2.2.2.2.2.2.2.2.2.2.1 c.2.2.2.2.2.2.2.2.2.2.2.2.2.2.2.2.2.2.2.2.2.2.1 c.2.2.2.2.2.2.2.2.2.2.2.2.2.2.2.2.2.2.2.2.2.2.2.1 c.2.2.2.2.2.2.2.2.2.2.2.2.2.2.2.2.2.2.2.2.2.2.2.2.1 c.2.2.2.2.2.2.2.2.2.2.2.2.2.2.2.2.2.2.2.2.2.2.2.2.2.1 c.2.2.2.2.2.2.2.2.2.2.2.2.2.2.2.2.2.2.2.2.2.2.2.2.2.2 := pickA_all (h := inhab) (p := fun c => Wk c.1 c.2.1 c.2.2.1 c.2.2.2.1 c.2.2.2.2.1 c.2.2.2.2.2.1 c.2.2.2.2.2.2.1 c.2.2.2.2.2.2.2.1 c.2.2.2.2.2.2.2.2.1 c.2.2.2.2.2.2.2.2.2.1 c.2.2.2.2.2.2.2.2.2.2.1 c.2.2.2.2.2.2.2.2.2.2.2.1 c.2.2.2.2.2.2.2.2.2.2.2.2.1 c.2.2.2.2.2.2.2.2.2.2.2.2.2.1 c.2.2.2.2.2.2.2.2.2.2.2.2.2.2.1 c.2.2.2.2.2.2.2.2.2.2.2.2.2.2.2.1 c.2.2.2.2.2.2.2.2.2.2.2.2.2.2.2.2.1 c.2.2.2.2.2.2.2.2.2.2.2.2.2.2.2.2.2.1 c.2.2.2.2.2.2.2.2.2.2.2.2.2.2.2.2.2.2.1 c.2.2.2.2.2.2.2.2.2.2.2.2.2.2.2.2.2.2.2.1 c.2.2.2.2.2.2.2.2.2.2.2.2.2.2.2.2.2.2.2.2.1 c.2.2.2.2.2.2.2.2.2.2.2.2.2.2.2.2.2.2.2.2.2.1 c.2.2.2.2.2.2.2.2.2.2.2.2.2.2.2.2.2.2.2.2.2.2.1 c.2.2.2.2.2.2.2.2.2.2.2.2.2.2.2.2.2.2.2.2.2.2.2.1 c.2.2.2.2.2.2.2.2.2.2.2.2.2.2.2.2.2.2.2.2.2.2.2.2.1 c.2.2.2.2.2.2.2.2.2.2.2.2.2.2.2.2.2.2.2.2.2.2.2.2.2.1 c.2.2.2.2.2.2.2.2.2.2.2.2.2.2.2.2.2.2.2.2.2.2.2.2.2.2) (by with_unfolding_all exact @here)
end own_checkNew_n
theorem own_checkNew {A : Around} {E : Value → Shared → Prop} {h : Heap} {g : Array GenState} {d : Drawn} {t : Nat} {os : OsState} {nm : Str} {q : Str} {C : Addr} {N : Addr} {bs : List Value} {bm : List Value} {hdct : Bool} {sn : List Str} {sub : List Value} {ab : Bool} {col : Option Bool} {dd : Option Addr} {k0 : Option Value} {k1 : Option Value} {k2 : Option Value} {k3 : Option Value} {k5 : Option Value} {rest : List Value} {Q : Unit → Shared → Prop} {M : Model} (V : Above bm) (hC : h.get? C = some (excClassObj nm q C N bs bm hdct sn sub ab col dd k0 k1 k2 k3 k5 "Exception.__new__")) (hq : Q () ⟨h, g, d, t, os⟩) :
    wpAny M A (checkBuiltinCall "Exception.__new__" ⟨.ref C :: rest, []⟩) Q E ⟨h, g, d, t, os⟩ :=
  own_checkNew_n.all (A, E, h, g, d, t, os, nm, q, C, N, bs, bm, hdct, sn, sub, ab, col, dd, k0, k1, k2, k3, k5, rest, Q, M)  V hC hq
section
variable {prog : Program} {w : World} {A : Around} {E : Value → Shared → Prop} {h : Heap} {g : Array GenState} {d : Drawn} {t : Nat} {os : OsState}
variable {nm q : Str} {C N : Addr} {bs bm : List Value} {hdct : Bool} {sn : List Str} {sub : List Value} {ab : Bool} {col : Option Bool} {dd : Option Addr} {k0 k1 k2 k3 k5 : Option Value}
theorem own_new (V : Above bm) {R : Result → Shared → Prop} {rest : List Value} (hC : h.get? C = some (excClassObj nm q C N bs bm hdct sn sub ab col dd k0 k1 k2 k3 k5 "Exception.__new__"))
    (hq : R (.ok (.ret (.ref (h.objs.size + 1)))) ⟨(h.push { cls := .type "tuple", data := .seq rest.toArray }).push
      { cls := .ref C, data := .fields #[.ref h.objs.size, .none, .none, .none, .bool false, .none] }, g, d, t, os⟩) (hrest : rest.length ≤ sizeLine := by size_fits) :
    codeAny (model prog w) A (.builtin "Exception.__new__" ⟨.ref C :: rest, []⟩) R ⟨h, g, d, t, os⟩ := by
  have F := PySem.F.excBase_Exception
  have hends := F.ends
  have hcB : (Value.ref C :: bm).contains (.type "Exception") = true := by rw [List.contains_cons, V.hasE, Bool.or_true]
  have hcA : (Value.ref C :: bm).contains (.type "AttributeError") = false := by rw [List.contains_cons, V.noA]; rfl
  have hcN : (Value.ref C :: bm).contains (.type "NameError") = false := by rw [List.contains_cons, V.noN]; rfl
  refine codeAny_builtinAt F.entry ?_
  unfold Builtin.«BaseException.__new__»
  refine PySem.wpAt_bind ?_
  show PySem.wpAt _ _ _ (stack >>= _) _ _ _
  refine PySem.wpAt_bind (PySem.wpAt_stack fun p below => PySem.wpAt_of_wpAny ?_)
  wp_walk
  refine PySem.wpAt_of_wpAny ?_
  rw [F.owner]
  repeat (first | with_reducible refine wpAny_madeHere_exc F.canon hC ?_ | with_reducible refine wpAny_loadPart_at hC ?_ | (with_reducible refine wpAny_isSubtype_exc hC ?_; first | rw [hcB] | rw [hcA] | rw [hcN]) | wp_step)
  show R _ _
  rw [Heap.size_push]
  exact hq
theorem own_typeCall (V : Above bm) {rest : List Value} {fI : Addr} {oI : Obj} {Q : PySem.Fin → Shared → Prop}
    (hC : h.get? C = some (excClassObj nm q C N bs bm hdct sn sub ab col dd k0 k1 k2 k3 k5 "Exception.__new__")) (hi : ∀ h', (∀ b o, h.get? b = some o → h'.get? b = some o) → Looks (model prog w) h' (typeLookup (.ref C) "__init__") (some (.ref fI)))
    (hfI : h.get? fI = some oI) (hfc : oI.cls = .type "function")
    (hq : ∀ h' e, Heap.MadeExcOf h h' e (.ref C) rest →
      wpAny (model prog w) A (call (.ref fI) (.ref e :: rest)) (fun r s' => r = .none ∧ Q (.done (.ret (.ref e))) s') E ⟨h', g, d, t, os⟩) (hrest : rest.length ≤ sizeLine := by size_fits) :
    wpAny (model prog w) A (Builtin.«type.__call__» ⟨.ref C :: rest, []⟩) Q E ⟨h, g, d, t, os⟩ := by
  have F := PySem.F.excBase_Exception
  repeat (first | with_reducible refine wpAny_loadPart_at hC ?_ | with_reducible refine wpAny_madeBy_exc hC ?_ | wp_step)
  refine codeAny_call_builtin_code (Code.quiet_builtin _ F.quiet) (own_checkNew V hC ?_)
  refine own_new V hC ?_ hrest
  show wpAny _ _ _ _ _ _
  have up : ∀ b o, h.get? b = some o → ((h.push { cls := .type "tuple", data := .seq rest.toArray }).push { cls := .ref C, data := .fields #[.ref h.objs.size, .none, .none, .none, .bool false, .none] }).get? b = some o :=
    fun b o e => Heap.get?_push_of_some _ (Heap.get?_push_of_some _ e)
  have hC₁ := up _ _ hC
  have hfI₁ := up _ _ hfI
  have hget : ((h.push { cls := .type "tuple", data := .seq rest.toArray }).push
      { cls := .ref C, data := .fields #[.ref h.objs.size, .none, .none, .none, .bool false, .none] }).get? (h.objs.size + 1) = some
      { cls := .ref C, data := .fields #[.ref h.objs.size, .none, .none, .none, .bool false, .none] } := by heap_get
  have hcC : (Value.ref C :: bm).contains (.ref C) = true := by simp
  unfold isInstance
  repeat (first | with_reducible refine wpAny_loadPart_at hget ?_ | (with_reducible refine wpAny_isSubtype_exc hC₁ ?_; rw [hcC]) | wp_step)
  show wpAny _ _ (typeLookup (.ref C) _) _ _ _
  refine (hi _ up).at ?_
  refine wpAny_holding (wpAny_bind ?_)
  unfold bindSpecial
  refine wpAny_bind (wpAny_typeOf (T := "function") ⟨_, hfI₁, hfc⟩ ?_)
  rw [if_pos (by decide)]
  refine wpAny_pure (wpAny_bind (wpAny_mono (hq _ (h.objs.size + 1) ⟨up, Heap.get?_none_of_le (Nat.le_succ _), h.objs.size, hget, Heap.get?_none_of_le (Nat.le_refl _), ?_⟩) (fun r s' hr => ?_) fun _ _ x => x))
  · exact Heap.get?_push_of_some _ (Heap.get?_push_at rfl rfl)
  · obtain ⟨rfl, hQ⟩ := hr
    wp_walk
    exact hQ
theorem own_call (V : Above bm) {rest : List Value} {fI : Addr} {oI : Obj} {Q : Value → Shared → Prop}
    (hC : h.get? C = some (excClassObj nm q C N bs bm hdct sn sub ab col dd k0 k1 k2 k3 k5 "Exception.__new__")) (hi : ∀ h', (∀ b o, h.get? b = some o → h'.get? b = some o) → Looks (model prog w) h' (typeLookup (.ref C) "__init__") (some (.ref fI)))
    (hfI : h.get? fI = some oI) (hfc : oI.cls = .type "function")
    (hq : ∀ h' e, Heap.MadeExcOf h h' e (.ref C) rest →
      wpAny (model prog w) (A.under (.builtin "type.__call__" ⟨.ref C :: rest, []⟩)) (call (.ref fI) (.ref e :: rest)) (fun r s' => r = .none ∧ Q (.ref e) s') E ⟨h', g, d, t, os⟩) (hrest : rest.length ≤ sizeLine := by size_fits) :
    wpAny (model prog w) A (call (.ref C) rest) Q E ⟨h, g, d, t, os⟩ := by
  have f1 := tc_lookup
  have f2 := tc_bind (.ref C)
  have hT : (⟨h, g, d, t, os⟩ : Shared).TypeIs (.ref C) "type" := ⟨_, hC, rfl⟩
  refine wpAny_call (codeAny_of_tree ?_)
  show wpAny _ _ (callAny (.ref C) _) _ _ _
  repeat (any_goals (first | assumption | with_reducible refine wpAny_loadPart_at hC ?_ | wp_step))
  refine ⟨rfl, ?_⟩
  refine codeAny_call_builtin_at (Code.quiet_builtin _ (by decide +kernel)) entry_typeCall (wpAny_check_type_call_sub hC (own_typeCall (hrest := hrest) V hC hi hfI hfc fun h' e hm => ?_))
  exact hq h' e hm
theorem raise_made {M : Model} {env : Env} {s : Shared} {x : Sem Value} {Q : Flow → Shared → Prop} {newId : String}
    (hbase : bm.contains (.type "BaseException") = true) (hh : A.handled = none)
    (hx : wpAny M A x (fun v s₁ => ∃ e t dx, v = .ref e ∧ s₁.heap.get? C = some (excClassObj nm q C N bs bm hdct sn sub ab col dd k0 k1 k2 k3 k5 newId) ∧
      s₁.heap.get? e = some { cls := .ref C, dict := some dx, data := .fields #[.ref t, .none, .none, .none, .bool false, .none] } ∧ E (.ref e) s₁) E s) :
    wpAny M A (raiseStmt env (some x) none) Q E s := by
  have hcB : (Value.ref C :: bm).contains (.type "BaseException") = true := by rw [List.contains_cons, hbase, Bool.or_true]
  unfold raiseStmt
  refine wpAny_bind (wpAny_mono hx (fun v s₁ h₁ => ?_) fun _ _ x => x)
  obtain ⟨e, t, dx, rfl, hC, he, hE⟩ := h₁
  obtain ⟨hp, g, d, tk, os⟩ := s₁
  repeat (first | with_reducible refine wpAny_loadPart_at he ?_ | with_reducible refine wpAny_loadPart_at hC ?_ | (with_reducible refine wpAny_isSubtype_exc hC ?_; rw [hcB]) | wp_step)
  exact wpAny_raiseNew_none hh hE
end
theorem fault_cls {w : World} {h : Heap} (X : (Mine.hd.heap_39 w.params).In h) : ∃ nm qn N bs bm hdct sn sub ab col dd k0 k1 k2 k3 k5,
    h.get? 69 = some (excClassObj nm qn 69 N bs bm hdct sn sub ab col dd k0 k1 k2 k3 k5 "Exception.__new__") ∧ Above bm :=
  ⟨_, _, _, _, _, _, _, _, _, _, _, _, _, _, _, _, X 69 _ rfl, ⟨rfl, rfl, rfl, rfl⟩⟩
end Mine
namespace Mine
open PySem.Builtin PySem.Builtin.ObjectAttr
theorem refuse_fault (self : Value) : refuseLoop self "__setattr__" [.ref 69, .ref 40, .type "Exception", .type "BaseException", .type "object"] = pure () := by
  rw [refuseLoop_ref, refuseLoop_ref]
  exact PySem.F.store_Exception.passes self
section
variable {prog : Program} {w : World} {A : Around} {E : Value → Shared → Prop} {s : Shared} {K : Frag} {x C : Addr} {R : Result → Shared → Prop}
theorem own_open {ox : Obj} {od : Option Obj} {cd : ClassData} {name : Str} {tk : Tok} {v : Value} (X : K.In s.heap) (I : InstAt s.heap x ox C od) (hc : clsIn K C = some cd) (ho : ∀ self, refuseLoop self "__setattr__" cd.mro = pure ()) (hob : cd.mro.contains (.type "object") = true) (ha : findIn K (.ref C) name = some none)
    (h : ∀ b, wpAny (model prog w) A.in1 (storeInOwnDict (.ref x) (.ref C) (.str name tk) name v b)
      (fun fin s' => match fin with | .done f => R (.ok f) s' | .again c' => c'.quiet = true ∧ codeAny (model prog w) A c' R s') (fun e s' => R (.error e) s') s) :
    codeAny (model prog w) A (.call (.builtin "object.__setattr__") ⟨[.ref x, .str name tk, v], []⟩) R s := by
  have SF := PySem.F.store_object
  have ne : cd.mro.isEmpty = false := by cases q : cd.mro with | nil => rw [q] at hob; cases hob | cons _ _ => rfl
  have sub : Looks (model prog w) s.heap (isInstance (.ref x) (.type "object")) true := I.type.andThen (looks_mroIn X (by unfold mroIn; rw [hc, Option.bind_some, if_neg (by rw [ne]; decide), hob]))
  refine codeAny_call_builtin SF.slot.plain SF.entry (@check_slot (model prog w) _ _ s "object.__setattr__" "object" "__setattr__" (.ref x) [.str name tk, v] [] _ SF.kind SF.split sub (SF.args (.ref x) (.str name tk) v) ?_)
  have hm : Looks (model prog w) s.heap (mroOf (.ref C)) cd.mro := (looks_clsIn X hc).andThen .now
  have L3 : Looks (model prog w) s.heap (storeTaker? (none : Option Value)) none := .now
  rw [osa_eq, refuse_eq]
  refine wpAny_bind (wpAny_bind (I.type.here (wpAny_bind (hm.here ?_))))
  rw [ho]
  refine wpAny_pure (wpAny_bind (I.type.here (wpAny_bind ((looks_findIn X ha).here (wpAny_bind (L3.here ?_))))))
  exact h _
theorem own_store {nm q : Str} {N : Addr} {bs bm : List Value} {sn : List Str} {sub : List Value} {ab : Bool} {col : Option Bool} {dd : Option Addr} {k0 k1 k2 k3 k5 : Option Value} {newId : String} {cd : ClassData} {name : Str} {v : Value} {mA : Str → Option Value} {Q : Unit → Shared → Prop} {ns : List Str} (X : K.In s.heap)
    (hC : s.heap.get? C = some (excClassObj nm q C N bs bm true sn sub ab col dd k0 k1 k2 k3 k5 newId)) (I : s.heap.Inst x C mA)
    (hs : findIn K (.ref C) "__setattr__" = some (some (.builtin "object.__setattr__"))) (hc : clsIn K C = some cd) (ho : ∀ self, refuseLoop self "__setattr__" cd.mro = pure ()) (hob : cd.mro.contains (.type "object") = true) (ha : findIn K (.ref C) name = some none)
    (hq : ∀ h' tk', h'.Inst x C (fun y => if y = name then some v else mA y) →
      (∀ b o, b ≠ x → (∀ o₀ dx, s.heap.get? x = some o₀ → o₀.dict = some dx → b ≠ dx) → s.heap.get? b = some o → h'.get? b = some o) →
      (∀ o₀, s.heap.get? x = some o₀ → ∃ o₁, h'.get? x = some o₁ ∧ o₁.cls = o₀.cls ∧ o₁.data = o₀.data ∧ o₁.slots = o₀.slots ∧ ∃ dx, o₁.dict = some dx ∧ ((∃ dx', o₀.dict = some dx' ∧ dx = dx') ∨ (o₀.dict = none ∧ s.heap.get? dx = none))) → Q () { s with heap := h', toks := tk' }) (hw : Within mA ns) (hsz : ns.length ≤ 10) :
    wpAny (model prog w) A (setAttr (.ref x) name v) Q E s := by
  obtain ⟨o, hx, hco, hnc, hd⟩ := I
  have hn : notCls o = true := by unfold notCls; split; (rename_i c q; exact absurd q (hnc c)); rfl
  have I' : ∃ od, InstAt s.heap x o C od := by
    rcases hd with ⟨hdn, _⟩ | ⟨dx, hdx, hne, hns⟩
    · exact ⟨none, hx, hco, hn, by rw [hdn]; trivial⟩
    · obtain ⟨o', es, ep, e1, _⟩ := hns
      exact ⟨some o', hx, hco, hn, by rw [hdx]; exact e1⟩
  obtain ⟨od, I'⟩ := I'
  refine set_plain X I' hs ?_
  refine own_open (s := { s with toks := s.toks + 1 }) X I' hc ho hob ha fun b => ?_
  obtain ⟨h, g, d, t, os⟩ := s
  dsimp only at hC hx I' X hq hd ⊢
  unfold storeInOwnDict
  refine wpAny_bind (wpAny_pure ?_)
  refine wpAny_bind ?_
  show wpAny _ _ (instanceDict x true) _ _ _
  unfold instanceDict
  repeat (first | (with_reducible refine wpAny_loadPart_at hx ?_; rw [hco]) | with_reducible refine wpAny_loadPart_at hC ?_ | wp_step)
  rcases hd with ⟨hdn, hmA⟩ | ⟨dx, hdx, hne, hns⟩
  · rw [hdn, if_neg (by simp [typeHasDict])]
    split
    · rename_i hcd
      cases hcd
    split
    · rename_i c hcd
      exact absurd hcd (hnc c)
    · have hx₁ : (h.push { cls := .type "dict", data := .dict #[] }).get? x = some o := Heap.get?_push_of_some _ hx
      have hxs : x ≠ h.objs.size := Nat.ne_of_lt (Heap.lt_size hx)
      refine wpAny_bind (wpAny_alloc' ?_)
      refine wpAny_bind (wpAny_update' hx₁ ?_)
      refine wpAny_pure ?_
      have hgd : ((h.push { cls := .type "dict", data := .dict #[] }).update x fun o => { cls := o.cls, dict := some h.objs.size, data := o.data, slots := o.slots }).get? h.objs.size
          = some { cls := .type "dict", data := .dict #[] } :=
        (Heap.get?_update_ne _ _ _ _ hxs.symm).trans (Heap.get?_push_at rfl rfl)
      have hnd : ((h.push { cls := .type "dict", data := .dict #[] }).update x fun o => { cls := o.cls, dict := some h.objs.size, data := o.data, slots := o.slots }).Ns h.objs.size (fun _ => none) :=
        ⟨_, #[], _, hgd, rfl, fun e he => absurd he (by simp), fun _ => rfl⟩
      show wpAny _ _ (storeInDict h.objs.size (.str name t) name v) _ _ _
      unfold storeInDict newKeyGuard
      refine wpAny_bind (wpAny_pure (wpAny_bind (wpAny_nsSet1 (Heap.Ns1.of_empty hnd) fun h' hn' hs => ?_)))
      obtain ⟨oD, esD, epD, hoD, hdD, hcD⟩ := hn'.count (Within.cons name v Within.nil)
      refine wpAny_bind (wpAny_lookBehind hoD (by rw [hdD]; exact pastItsLine_dict (Nat.le_trans hcD (by rw [List.length_cons, List.length_nil, sizeLine_eq]; omega))) ?_)
      wp_walk
      have hx' : h'.get? x = some { cls := o.cls, dict := some h.objs.size, data := o.data, slots := o.slots } := ?_
      refine hq h' _ ⟨{ cls := o.cls, dict := some h.objs.size, data := o.data, slots := o.slots }, hx', hco, hnc, .inr ⟨h.objs.size, rfl, hxs.symm, ?_⟩⟩ (fun b ob hbx _ hb => ?_)
        (fun o₀ h₀ => by obtain rfl : o = o₀ := Option.some.inj (hx.symm.trans h₀); exact ⟨_, hx', rfl, rfl, rfl, h.objs.size, rfl, .inr ⟨hdn, Heap.get?_none_of_le (Nat.le_refl _)⟩⟩)
      · obtain ⟨o', es, ep, e1, e2, e3, eu, e4⟩ := hn'
        exact ⟨o', es, ep, e1, e2, e3, eu, fun y => by rw [e4 y]; by_cases hy : y = name <;> simp [hy, hmA]⟩
      · exact (hs.2 b (Nat.ne_of_lt (Heap.lt_size hb))).trans ((Heap.get?_update_ne _ _ _ _ hbx).trans (Heap.get?_push_of_some _ hb))
      · refine (hs.2 x hxs).trans (Heap.get?_update_self _ hx₁ ?_)
        have hfr := (Heap.get?_some_iff.mp hx).2
        obtain ⟨oc, od, odt, osl⟩ := o
        cases odt <;> first | rfl | exact hfr
  · rw [hdx]
    refine wpAny_pure ?_
    show wpAny _ _ (storeInDict dx (.str name t) name v) _ _ _
    unfold storeInDict newKeyGuard
    refine wpAny_bind (wpAny_pure (wpAny_bind (wpAny_nsSet1 hns fun h' hn' hs => ?_)))
    obtain ⟨oD, esD, epD, hoD, hdD, hcD⟩ := hn'.count (Within.cons name v hw)
    refine wpAny_bind (wpAny_lookBehind hoD (by rw [hdD]; exact pastItsLine_dict (Nat.le_trans hcD (by rw [List.length_cons, sizeLine_eq]; omega))) ?_)
    wp_walk
    refine hq h' _ ⟨o, (hs.2 x hne.symm).trans hx, hco, hnc, .inr ⟨dx, hdx, hne, hn'⟩⟩ (fun b ob _ hbd hb => ?_)
      (fun o₀ h₀ => by obtain rfl : o = o₀ := Option.some.inj (hx.symm.trans h₀); exact ⟨o, (hs.2 x hne.symm).trans h₀, rfl, rfl, rfl, dx, hdx, .inl ⟨dx, hdx, rfl⟩⟩)
    exact (hs.2 b (hbd o dx hx hdx)).trans hb
theorem eg_lookup : typeLookup (.type "BaseException") "__getattribute__" = pure (some (.builtin "BaseException.__getattribute__")) := by rw [typeLookup_type, builtinLookup_eq_fast]; kernel_rfl
theorem eg_slot : Slot "BaseException" "__getattribute__" "BaseException.__getattribute__" := .of (owner := "BaseException") (n := "__getattribute__") eg_lookup (by decide +kernel) (by decide +kernel) (by decide +kernel) (.inl (by decide +kernel)) (by rw [isSubtype_type]; kernel_rfl)
theorem eg_entry : entryFor table "BaseException.__getattribute__" = some Builtin.«object.__getattribute__» :=
  entryFor_alias (id' := "object.__getattribute__") (by kernel_rfl) rfl (by decide +kernel) (by kernel_rfl)
theorem eg_kind : builtinKind "BaseException.__getattribute__" = some .slot := by decide +kernel
theorem eg_split : splitId "BaseException.__getattribute__" = some ("BaseException", "__getattribute__") := by decide +kernel
theorem eg_args (a b : Value) : argsOk "BaseException.__getattribute__" ⟨[a, b], []⟩ := by unfold argsOk; kernel_rfl
theorem exc_get {ox : Obj} {od : Option Obj} {name : Str} {v : Value} {expr : Bool} {Q : Value → Shared → Prop} (X : K.In s.heap) (I : InstAt s.heap x ox C od) (hga : findIn K (.ref C) "__getattribute__" = some (some (.builtin "BaseException.__getattribute__")))
    (hgh : findIn K (.ref C) "__getattr__" = some none) (hm : mroIn K C (.type "BaseException") = some true)
    (hf : findObj K C od name = some (.value v)) (hh : handedIn v = true) (h : Q v { s with toks := s.toks + 1 }) : wpAny (model prog w) A (getAttr (.ref x) name expr) Q E s := by
  obtain ⟨hh', g, d, t, os⟩ := s
  have L0 := I.type (M := model prog w)
  have L1 := looks_findIn (M := model prog w) X hga
  have L2 := looks_find (M := model prog w) X I hf
  have L3 := looks_findIn (M := model prog w) X hgh
  have sub : Looks (model prog w) hh' (isInstance (.ref x) (.type "BaseException")) true := L0.andThen (looks_mroIn X hm)
  unfold getAttr getAttrBy
  refine wpAny_bind (wpAny_mkText (wpAny_holding (wpAny_bind (L0.at (wpAny_bind (L1.at ?_))))))
  show wpAny _ _ (getAttrByItsOwn _ _ _ _ _ _) _ _ _
  unfold getAttrByItsOwn
  show wpAny _ _ (typeLookup (.ref C) "__getattr__" >>= _) _ _ _
  refine wpAny_bind (L3.at ?_)
  refine wpAny_bind (wpAny_attempt (wpAny_holding ?_))
  have hcg : callGetattribute (.ref x) (.str name t) (.builtin "BaseException.__getattribute__") expr = boundAndCalled (.builtin "BaseException.__getattribute__") (.ref x) (.str name t) := by
    unfold callGetattribute; cases expr <;> rfl
  show wpAny _ _ (callGetattribute (.ref x) (.str name t) (.builtin "BaseException.__getattribute__") expr) _ _ _
  rw [hcg]
  unfold boundAndCalled
  refine wpAny_bind (wpAny_of_eq (eg_slot.bind _) ?_)
  refine wpAny_call (codeAny_call_builtin eg_slot.plain eg_entry (@check_slot (model prog w) _ _ ⟨hh', g, d, t + 1, os⟩ "BaseException.__getattribute__" "BaseException" "__getattribute__" (.ref x) [.str name t] [] _ eg_kind eg_split sub (eg_args _ _) ?_))
  refine wpAny_bind (wpAny_pure (wpAny_bind (wpAny_pure (wpAny_bind (L0.at (wpAny_bind (L2.at ?_)))))))
  refine wpAny_pure ?_
  show wpAny _ _ (handedOut v) _ _ _
  rw [handedOut_of hh]; exact wpAny_pure h
theorem wrap_type : typeOf (.builtin "Exception.__init__") = pure (.type "wrapper_descriptor") := by kernel_rfl
theorem wrap_get : typeLookup (.type "wrapper_descriptor") "__get__" = pure (some (.builtin "wrapper_descriptor.__get__")) := by rw [typeLookup_type, builtinLookup_eq_fast]; kernel_rfl
abbrev wrapObj (x : Addr) : Obj := { cls := .type "method-wrapper", data := .fields #[.builtin "Exception.__init__", .ref x] }
local macro_rules | `(tactic| x_close) => `(tactic| (
  rename W.X.Mem _ _ _ _ => D
  rename ∀ (q : Addr) (h' : Heap), _ => hq
  exact hq _ _ (fun b o q => D.keep b o q (Bool.or_true _)) (D.nw _ (List.mem_of_getElem? (i := 0) rfl)).2 (D.at 0 _ _ rfl)))
theorem wrapGet {t : Addr} {Q : Value → Shared → Prop} (X : (Mine.hd.heap_39 w.params).In s.heap) (hx : s.heap.get? x = some { cls := .ref 69, data := .fields #[.ref t, .none, .none, .none, .bool false, .none] })
    (h : ∀ q h', Keep s.heap h' → s.heap.get? q = none → h'.get? q = some (wrapObj x) → Q (.ref q) { s with heap := h' }) : wpAny (model PG w) A (call (.builtin "wrapper_descriptor.__get__") [.builtin "Exception.__init__", .ref x, .ref 69]) Q E s := by
  (have hFill : ∀ P : Params, (Mine.hd.heap_39 P = Mine.hd.heap_39 P) ∧ PySem.Challenge.rw_rg0113_01 = PySem.Challenge.rw_rg0113_01 := (by k_fill; exact fillK); clear hFill)
  x_run
end
end Mine
namespace Mine
section
variable {w : World} {A : Around} {E : Value → Shared → Prop} {h : Heap} {g : Array GenState} {d : Drawn} {t : Nat} {os : OsState} {x so : Addr}
abbrev excObj (t : Addr) : Obj := { cls := .ref 69, data := .fields #[.ref t, .none, .none, .none, .bool false, .none] }
theorem exc_super_ga {K : Frag} {ta : Addr} {tk : Tok} {l₀ l : List Value} {Q : PySem.Fin → Shared → Prop}
    (hso : h.get? so = some { cls := .type "super", dict := none, data := .fields #[.ref 40, .ref x, .ref 69], slots := #[] }) (hno : Looks (model PG w) h (opaqueClassAbove (.ref 69)) none)
    (hC : Looks (model PG w) h (mroOf (.ref 69)) l₀) (hl : (l₀.dropWhile (· != .ref 40)).drop 1 = l) (X : (Mine.hd.heap_39 w.params).In h) (XK : K.In h)
    (hf : alongIn K (Str.ofString "__init__") l = some (some (.builtin "Exception.__init__"))) (hx : h.get? x = some (excObj ta)) (hxC : x ≠ 69)
    (hq : ∀ q h', Keep h h' → h.get? q = none → h'.get? q = some (wrapObj x) → Q (.done (.ret (.ref q))) ⟨h', g, d, t, os⟩) :
    wpAny (model PG w) A (Builtin.«super.__getattribute__» ⟨[.ref so, .str (Str.ofString "__init__") tk], []⟩) Q E ⟨h, g, d, t, os⟩ := by
  have hne : (Value.ref x == Value.ref 69) = false := by simp [hxC]
  have hn : ((Str.ofString "__init__") == ("__class__" : Str)) = false := by decide
  have hdt : ({ cls := .type "super", dict := none, data := .fields #[.ref 40, .ref x, .ref 69], slots := #[] } : Obj).data = .fields #[.ref 40, .ref x, .ref 69] := rfl
  have f0 : (#[.ref 40, .ref x, .ref 69] : Array Value)[0]? = some (.ref 40) := rfl
  have f1 : (#[.ref 40, .ref x, .ref 69] : Array Value)[1]? = some (.ref x) := rfl
  have f2 : (#[.ref 40, .ref x, .ref 69] : Array Value)[2]? = some (.ref 69) := rfl
  unfold Builtin.«super.__getattribute__»
  repeat (first
    | (with_reducible refine wpAny_field hso hdt f0 ?_) | (with_reducible refine wpAny_field hso hdt f1 ?_) | (with_reducible refine wpAny_field hso hdt f2 ?_)
    | (with_reducible refine ks_wpAny_notOpaque hno ?_)
    | (with_reducible refine Looks.at hC ?_; rw [hl])
    | (refine ks_forIn_along XK (fun _ _ => rfl) rfl ?_ hf)
    | (with_reducible refine wpAny_of_eq wrap_type ?_)
    | (with_reducible refine wpAny_of_eq wrap_get ?_)
    | (with_reducible refine wrapGet X hx fun q h' k1 k2 k3 => ?_)
    | (simp only [hn, hne, Bool.or_false, Bool.false_eq_true, if_false])
    | wp_step
    | dsimp only)
  all_goals exact hq _ _ k1 k2 k3
theorem exc_super {K : Frag} {ta : Addr} {l₀ l : List Value} {pl : Sem Bool} {Q : Value × List Value → Shared → Prop}
    (hso : h.get? so = some { cls := .type "super", dict := none, data := .fields #[.ref 40, .ref x, .ref 69], slots := #[] }) (hno : Looks (model PG w) h (opaqueClassAbove (.ref 69)) none)
    (hC : Looks (model PG w) h (mroOf (.ref 69)) l₀) (hl : (l₀.dropWhile (· != .ref 40)).drop 1 = l) (X : (Mine.hd.heap_39 w.params).In h) (XK : K.In h)
    (hf : alongIn K (Str.ofString "__init__") l = some (some (.builtin "Exception.__init__"))) (hx : h.get? x = some (excObj ta)) (hxC : x ≠ 69)
    (hq : ∀ q h', Keep h h' → h.get? q = none → h'.get? q = some (wrapObj x) → Q (.ref q, []) ⟨h', g, d, t + 1, os⟩) :
    wpAny (model PG w) A (getMethod (.ref so) (Str.ofString "__init__") pl) Q E ⟨h, g, d, t, os⟩ := by
  have hlk := F.ks_slot_super_ga.lookup
  have hcan := F.ks_canon_super_ga
  have hT : ∀ t', (⟨h, g, d, t', os⟩ : Shared).TypeIs (.ref so) "super" := fun _ => ⟨_, hso, rfl⟩
  unfold getMethod
  refine wpAny_bind (wpAny_specialOf (hT _) hlk ?_)
  show wpAny _ _ (if (Manifest.canonical "super.__getattribute__" != "object.__getattribute__") = true then _ else _) _ _ _
  rw [if_pos hcan]
  unfold getAttr getAttrBy
  refine wpAny_bind (wpAny_bind (wpAny_mkText (wpAny_holding (wpAny_bind (wpAny_typeOf (hT _) (wpAny_bind (wpAny_of_eq hlk ?_)))))))
  show wpAny _ _ (getAttrByItsOwn (.ref so) (.str (Str.ofString "__init__") t) (.type "super") (.builtin "super.__getattribute__") true false) _ _ _
  unfold getAttrByItsOwn hookBefore callGetattribute boundAndCalled
  refine wpAny_bind (wpAny_of_eq (show (if onTheHeap (.type "super") then typeLookup (.type "super") "__getattr__" else pure none) = pure none from rfl) ?_)
  refine wpAny_bind (wpAny_attempt (wpAny_holding ?_))
  show wpAny _ _ (bindSpecial (.builtin "super.__getattribute__") (.ref so) >>= _) _ _ _
  refine wpAny_bind (wpAny_of_eq (F.ks_slot_super_ga.bind _) ?_)
  refine wpAny_mono (Q := fun v s' => ∃ q h', v = .ref q ∧ s' = ⟨h', g, d, t + 1, os⟩ ∧ Keep h h' ∧ h.get? q = none ∧ h'.get? q = some (wrapObj x)) (E := fun _ _ => False)
    (wpAny_call_entry F.ks_slot_super_ga (hT _) F.ks_entry_super_ga (exc_super_ga hso hno hC hl X XK hf hx hxC fun q h' a b c => ⟨_, rfl, q, h', rfl, rfl, a, b, c⟩) (F.ks_gaArgs_super _ _)) (fun v s' hv => ?_) fun _ _ z => z.elim
  obtain ⟨q, h', rfl, rfl, a, b, c⟩ := hv
  exact wpAny_pure (wpAny_pure (hq q h' a b c))
theorem ei_kind : builtinKind "Exception.__init__" = some .slot := by decide +kernel
theorem ei_bound {M : Model} {ta : Addr} {b : Value} {Q : Unit → Shared → Prop} (X : (Mine.hd.heap_39 w.params).In h) (hx : h.get? x = some (excObj ta)) (hq : Q () ⟨h, g, d, t, os⟩) : wpAny M A (checkBoundCall "Exception.__init__" ⟨[.ref x, b], []⟩) Q E ⟨h, g, d, t, os⟩ := by
  have F := PySem.F.excBase_Exception
  have hshort := F.noStar
  obtain ⟨nm, qn, N, bs, bm, hdct, sn, sub, ab, col, dd, k0, k1, k2, k3, k5, hC, V⟩ := fault_cls X
  unfold checkBoundCall
  simp only [F.initRow, ei_kind]
  rw [if_pos (by decide)]
  unfold Bind.checkArgs
  repeat (first | with_reducible refine wpAny_loadPart_at hx ?_ | with_reducible refine wpAny_loadPart_at hC ?_ | wp_step)
  exact hq
theorem wrapCall {q ta : Addr} {v : Value} {Q : Value → Shared → Prop} (X : (Mine.hd.heap_39 w.params).In h) (hq0 : h.get? q = some (wrapObj x)) (hx : h.get? x = some (excObj ta))
    (hq : ∀ t' h', h'.get? x = some (excObj t') → (∀ b o, b ≠ x → h.get? b = some o → h'.get? b = some o) → h.get? t' = none → Q .none ⟨h', g, d, t, os⟩) : wpAny (model PG w) A (call (.ref q) [v]) Q E ⟨h, g, d, t, os⟩ := by
  refine wpAny_call (codeAny_of_tree ?_)
  show wpAny _ _ (callAny (.ref q) _) _ _ _
  unfold callAny
  refine wpAny_bind (wpAny_load hq0 ?_)
  refine wpAny_bind (ei_bound X hx ?_)
  refine wpAny_pure ⟨Code.quiet_builtin _ (by decide +kernel), ?_⟩
  refine codeAny_builtin (F.excBase_Exception).initEntry ?_
  unfold Builtin.«BaseException.__init__»
  wp_walk
  show Q .none _
  have hxs : x ≠ h.objs.size := Nat.ne_of_lt (Heap.lt_size hx)
  refine hq h.objs.size _ ?_ (fun b o hb e => ?_) (Heap.get?_none_of_le (Nat.le_refl _))
  · exact Heap.get?_update_self _ (Heap.get?_push_of_some _ hx) rfl
  · rw [Heap.get?_update_other _ _ (Ne.symm hb)]; exact Heap.get?_push_of_some _ e
end
end Mine
namespace Mine
abbrev excObjD (dx t : Addr) : Obj := { cls := .ref 69, dict := some dx, data := .fields #[.ref t, .none, .none, .none, .bool false, .none] }
noncomputable def OwnD (o : Obj) (mA : Str → Option Value) : Prop := ∃ es ep, o.data = .dict es ep ∧ StrKeys es ∧ UniqKeys es ∧ ∀ name, nsFind es name = mA name
theorem OwnD.ns1 {o : Obj} {mA : Str → Option Value} (x : OwnD o mA) {h : Heap} {a : Addr} (e : h.get? a = some o) : h.Ns1 a mA := let ⟨es, ep, r⟩ := x; ⟨o, es, ep, e, r⟩
theorem OwnD.of {h : Heap} {a : Addr} {mA : Str → Option Value} (x : h.Ns1 a mA) : ∃ o, h.get? a = some o ∧ OwnD o mA := let ⟨o, es, ep, e, r⟩ := x; ⟨o, e, es, ep, r⟩
theorem updNews {g h h' : Heap} {L D : Addr} {o o' : Obj} {news news' : List (Addr × Obj)} (N : News g L h news) (U : Upd D o o' news news') (hk : ∀ b ob, b ≠ D → h.get? b = some ob → h'.get? b = some ob) (ho : h'.get? D = some o') : News g L h' news' := by
  obtain ⟨pre, post, rfl, rfl, a, c⟩ := U.split
  intro p hp
  have hD := N (D, o) (by simp)
  rcases List.mem_append.mp hp with hp | hp
  · have := N p (List.mem_append.mpr (.inl hp)); exact ⟨hk _ _ (a p hp) this.1, this.2⟩
  · rcases List.mem_cons.mp hp with rfl | hp
    · exact ⟨ho, hD.2⟩
    · have := N p (List.mem_append.mpr (.inr (.tail _ hp))); exact ⟨hk _ _ (c p hp) this.1, this.2⟩
theorem updFr {g h h' : Heap} {L D : Addr} {m : Str → Option Value} {o o' : Obj} {news news' : List (Addr × Obj)} (F : Fr g L h m) (N : News g L h news) (U : Upd D o o' news news') (hk : ∀ b ob, b ≠ D → h.get? b = some ob → h'.get? b = some ob) : Fr g L h' m := by
  obtain ⟨pre, post, rfl, rfl, a, c⟩ := U.split
  have hD := N (D, o) (by simp)
  obtain ⟨oL, es, ep, hL, r⟩ := F.ns
  exact ⟨⟨oL, es, ep, hk _ _ (Ne.symm hD.2.1) hL, r⟩, fun b ob e => hk b ob (fun q => by rw [q, hD.2.2] at e; cases e) (F.keep b ob e), F.above⟩
theorem updMem {D : Addr} {o o' : Obj} {news news' : List (Addr × Obj)} (U : Upd D o o' news news') : (D, o) ∈ news := by
  obtain ⟨pre, post, rfl, rfl, a, c⟩ := U.split; simp
theorem own_look {o : Obj} {mA : Str → Option Value} (x : OwnD o mA) {name : Str} {v : Value} (e : mA name = some v) : lookIn name o = some (some v) := by
  obtain ⟨es, ep, hd, hs, hu, hf⟩ := x
  have hf' := hf name
  rw [e] at hf'
  unfold lookIn
  rw [hd]
  dsimp only
  unfold nsFind findBy at hf'
  rw [← Array.find?_toList] at hf'
  cases q : es.toList.find? (·.key.isStr name) with
  | some en => rw [q] at hf'; simp only [Option.map_some] at hf'; simp only [Option.some.inj hf']
  | none => rw [q] at hf'; cases hf'
section
variable {w : World} {A : Around} {E : Value → Shared → Prop} {s : Shared} {g : Heap} {L x so q ta dx : Addr} {m mg mb : Str → Option Value} {mean : ExcName → Option Value} {news : List (Addr × Obj)} {news' : Addr → List (Addr × Obj)} {newsO : Obj → List (Addr × Obj)}
theorem exc_ne {o : Obj} (X₀ : (Mine.hd.heap_39 w.params).In g) (hx : s.heap.get? x = some o) (hc : o.cls = .ref 69) (F : Fr g L s.heap m) : x ≠ 69 := by
  rintro rfl
  obtain ⟨nm, qn, N, bs, bm, hdct, sn, sub, ab, col, dd, k0, k1, k2, k3, k5, hC, V⟩ := fault_cls (X₀.keeps F.keep)
  rw [hC] at hx
  cases hx
  cases hc
theorem exInst (N : News g L s.heap news) (h1 : (x, excObj ta) ∈ news) : InstAt s.heap x (excObj ta) 69 none := ⟨(N _ h1).1, rfl, rfl, trivial⟩
theorem exInstD {od : Obj} (N : News g L s.heap news) (h1 : (x, excObjD dx ta) ∈ news) (h2 : (dx, od) ∈ news) : InstAt s.heap x (excObjD dx ta) 69 (some od) := ⟨(N _ h1).1, rfl, rfl, (N _ h2).1⟩
theorem superL {pl : Sem Bool} {Q : Value × List Value → Shared → Prop} (F : Fr g L s.heap m) (X₀ : (Mine.hd.heap_39 w.params).In g) (N : News g L s.heap news) (hso : (so, ks_superObj 40 x 69) ∈ news) (hx : (x, excObj ta) ∈ news)
    (h : ∀ q h', Fr g L h' m → News g L h' ((q, wrapObj x) :: news) → (∀ p ∈ news, @Ne Nat p.1 q) → Q (.ref q, []) { s with heap := h', toks := s.toks + 1 }) :
    wpAny (model PG w) A (getMethod (.ref so) (Str.ofString "__init__") pl) Q E s := by
  have X := X₀.keeps F.keep
  have hxg := N.get hx
  have hne := exc_ne (s := s) X₀ hxg rfl F
  obtain ⟨hp, gg, d, t, os⟩ := s
  refine exc_super (N.get hso) (looks_opaque X (by kernel_rfl)) (l₀ := [.ref 69, .ref 40, .type "Exception", .type "BaseException", .type "object"]) (l := [.type "Exception", .type "BaseException", .type "object"]) ?_ (by decide) X X (by kernel_rfl) hxg hne fun q h' k hq hq' => ?_
  · exact fun A Q E s k q => wpAny_bind ((looks_clsIn (K := Mine.hd.heap_39 w.params) (C := 69) X rfl) A _ E s k (wpAny_pure q))
  · exact h q h' (Keep.fr k F) (newsAdd F (Keep.news k N) hq' hq) (newsNe N hq)
theorem wrapL {v : Value} {Q : Value → Shared → Prop} (F : Fr g L s.heap m) (X₀ : (Mine.hd.heap_39 w.params).In g) (N : News g L s.heap news) (hq : (q, wrapObj x) ∈ news) (U : ∀ t', Upd x (excObj ta) (excObj t') news (news' t'))
    (h : ∀ t' h', Fr g L h' m → News g L h' (news' t') → Q .none { s with heap := h' }) : wpAny (model PG w) A (call (.ref q) [v]) Q E s := by
  obtain ⟨hp, gg, d, t, os⟩ := s
  refine wrapCall (X₀.keeps F.keep) (N.get hq) (N.get (updMem (U 0))) fun t' h' a b c => ?_
  exact h t' h' (updFr F N (U t') b) (updNews N (U t') b a)
theorem setFirst {name : Str} {v : Value} {Q : Unit → Shared → Prop} (F : Fr g L s.heap m) (X₀ : (Mine.hd.heap_39 w.params).In g) (N : News g L s.heap news) (U : ∀ dx, Upd x (excObj ta) (excObjD dx ta) news (news' dx)) (ha : findIn (Mine.hd.heap_39 w.params) (.ref 69) name = some none)
    (h : ∀ dx oD h' tk, Fr g L h' m → News g L h' ((dx, oD) :: news' dx) → (∀ p ∈ news, @Ne Nat p.1 dx) → OwnD oD (fun y => if y = name then some v else none) → Q () { s with heap := h', toks := tk }) : wpAny (model PG w) A (setAttr (.ref x) name v) Q E s := by
  have X := X₀.keeps F.keep
  have hx := N.get (updMem (U 0))
  refine own_store (nm := _) (newId := "Exception.__new__") (cd := _) (mA := fun _ => none) (ns := []) X (X 69 _ rfl) ⟨_, hx, rfl, fun c q => (by cases q), .inl ⟨rfl, fun _ => rfl⟩⟩ (by kernel_rfl) rfl refuse_fault rfl ha (fun h' tk I k e => ?_) Within.nil (by decide)
  obtain ⟨o₁, e1, e2, e3, e4, dx, e5, e6⟩ := e _ hx
  obtain ⟨oi, i1, i2, i3, i4⟩ := I
  rw [e1] at i1; cases i1
  have hnew : s.heap.get? dx = none := by
    rcases e6 with ⟨_, q, _⟩ | ⟨_, q⟩
    · cases q
    · exact q
  rcases i4 with ⟨q, _⟩ | ⟨dx', q, hne, hns⟩
  · rw [e5] at q; cases q
  rw [e5] at q; cases q
  obtain ⟨oD, hoD, w1⟩ := OwnD.of hns
  have ho : h'.get? x = some (excObjD dx ta) := by
    rw [e1]; obtain ⟨c, d, dt, sl⟩ := o₁; dsimp only at e2 e3 e4 e5; subst e2 e3 e4 e5; rfl
  have kk : ∀ b ob, b ≠ x → s.heap.get? b = some ob → h'.get? b = some ob := fun b ob hb he => k b ob hb (fun o₀ dx h0 hd => by rw [hx] at h0; cases h0; cases hd) he
  refine h dx oD h' tk (updFr F N (U dx) kk) ?_ (newsNe N hnew) w1
  exact newsAdd F (updNews N (U dx) kk ho) hoD hnew
theorem setNext {name : Str} {v : Value} {oD : Obj} {mA : Str → Option Value} {Q : Unit → Shared → Prop} {ns : List Str} (F : Fr g L s.heap m) (X₀ : (Mine.hd.heap_39 w.params).In g) (N : News g L s.heap news) (hx' : (x, excObjD dx ta) ∈ news) (U : ∀ oD', Upd dx oD oD' news (newsO oD')) (hO : OwnD oD mA) (hne : @Ne Nat dx x) (hw : Within mA ns) (hns' : ns.length ≤ 10) (ha : findIn (Mine.hd.heap_39 w.params) (.ref 69) name = some none)
    (h : ∀ oD' h' tk, Fr g L h' m → News g L h' (newsO oD') → OwnD oD' (fun y => if y = name then some v else mA y) → Q () { s with heap := h', toks := tk }) : wpAny (model PG w) A (setAttr (.ref x) name v) Q E s := by
  have X := X₀.keeps F.keep
  have hx := N.get hx'
  refine own_store (nm := _) (newId := "Exception.__new__") (cd := _) (mA := mA) (ns := ns) X (X 69 _ rfl) ⟨_, hx, rfl, fun c q => (by cases q), .inr ⟨dx, rfl, hne, hO.ns1 (N.get (updMem (U oD)))⟩⟩ (by kernel_rfl) rfl refuse_fault rfl ha (fun h' tk I k e => ?_) hw hns'
  obtain ⟨o₁, e1, e2, e3, e4, dx', e5, e6⟩ := e _ hx
  obtain ⟨oi, i1, i2, i3, i4⟩ := I
  rw [e1] at i1; cases i1
  have hd : dx' = dx := by
    rcases e6 with ⟨d, q, q'⟩ | q
    · cases q; exact q'
    · cases q.1
  subst hd
  rcases i4 with ⟨q, _⟩ | ⟨dx', q, hne', hns⟩
  · rw [e5] at q; cases q
  rw [e5] at q; cases q
  obtain ⟨oD', hoD, w1⟩ := OwnD.of hns
  have hxx : h'.get? x = some (excObjD dx' ta) := by
    rw [e1]; obtain ⟨c, d, dt, sl⟩ := o₁; dsimp only at e2 e3 e4 e5; subst e2 e3 e4 e5; rfl
  have kk : ∀ b ob, b ≠ dx' → s.heap.get? b = some ob → h'.get? b = some ob := fun b ob hb he => by
    by_cases hbx : b = x
    · subst hbx; rw [hx] at he; cases he; exact hxx
    · exact k b ob hbx (fun o₀ d h0 hd => by rw [hx] at h0; cases h0; cases hd; exact hb) he
  exact h oD' h' tk (updFr F N (U oD') kk) (updNews N (U oD') kk hoD) w1
end
noncomputable def WrapP (q x : Addr) (h : Heap) : Prop := h.get? q = some (wrapObj x)
section
variable {w : World} {A A₀ : Around} {E : Value → Shared → Prop} {s : Shared} {base h₀ g : Heap} {outer : List Env} {L : Addr} {m mg mb : Str → Option Value} {mean : ExcName → Option Value} {env : Env} {K : Frag} {news : List (Addr × Obj)}
  {R : Result → Shared → Prop} {name qual : Str} {params : Arguments} {body : List Stmt} {scope : Scope} {dV kV doc pm cdv ct oc : Value} {an od : Option Addr} {osl : Array (Option Value)} {f cc : Addr} {args : Args} {binds : List (Str × Value)}
theorem callWith_W {q x : Addr} {pos : Pos} {e : PySem.Expr} {rest : List PySem.Expr} {first : List Value} {Q : Value → Shared → Prop} (h : wpAny (model PG w) A (spliced (backTo pos (starEach (e :: rest) env))) (fun vs s₁ => WrapP q x s₁.heap ∧ wpAny (model PG w) A (call (.ref q) (first ++ vs)) Q E s₁) E s)
    (he : starEach (e :: rest) env = (false, eval e env) :: starEach rest env := by rfl) (hplain : (backTo pos (starEach rest env)).any (·.1) = false := by rfl) :
    wpAny (model PG w) A (callWith pos (.ref q) first (backTo pos (starEach (e :: rest) env)) []) Q E s := by
  rw [he] at h ⊢
  exact callWith_of (P := WrapP q x) (by show ((false || (backTo pos (starEach rest env)).any (·.1)) || false) = false; rw [hplain]; rfl)
    (fun h hq => ⟨.machine, .inr (.inl rfl), (Looks.ld (part := none) hq).andThen .now⟩) (evalArgs_plain h)
theorem callFS (B : Below A₀ base outer h₀) (F : Fr h₀ L s.heap m) (X₀ : K.In h₀) (N : News h₀ L s.heap news) (T : TopH mean mg mb h₀) (hA : A.frames = some (env :: outer)) (hf : env.frame = some L) (hke : env.scope.kind = .function)
    (ho : K.lookup f = some ⟨oc, od, .func (ksFn name qual params body scope dV kV doc pm an cdv ct cc), osl⟩) (hcd : codeIn K cdv qual = true) (hroom : A.depth < recursionLimit)
    (hbind : BindsTo s (ksFn name qual params body scope dV kV doc pm an cdv ct cc) args binds) (hloc : ∀ y ∈ binds, scope.names.lookup y.1 = some .local)
    (h : ∀ g L' h₁, g = hideAll s.heap (news.map (·.1)) → Fr g L' h₁ (fun y => binds.reverse.lookup y) → News g L' h₁ news → Below A base (env :: outer) g → K.In g → TopH mean mg mb g → (∀ p ∈ news, p.1 < L') →
      _root_.PySem.wpAt (model PG w) (A.deeper (ksEnv qual scope L' f cdv cc)) (.func body (ksEnv qual scope L' f cdv cc)) (execs body (ksEnv qual scope L' f cdv cc))
        (fun fl s' => R (.ok (.ret (match fl with | .ret v => v | _ => .none))) s')
        (fun e s' => wpAny (model PG w) (A.deeper (ksEnv qual scope L' f cdv cc)) (leaving (ksEnv qual scope L' f cdv cc) e) (fun _ s'' => R (.error e) s'') (fun e' s'' => R (.error e') s'') s')
        { s with heap := h₁, toks := s.toks + binds.length })
    (hcell : ∀ x ∈ scope.names, x.2 ≠ .cell := by decide) (hco : scope.isCoroutine = false := by rfl) (hgen : scope.isGenerator = false := by rfl) (hk : scope.kind = .function := by rfl) : codeAny (model PG w) A (.call (.ref f) args) R s := by
  obtain ⟨FG, BG, st, lv⟩ := groundX (R := R) B F N hA hf hke
  refine ks_codeAny_call_defAt (fd := ksFn name qual params body scope dV kV doc pm an cdv ct cc) (body := body) (binds := binds) hroom ((X₀.keeps F.keep) _ _ ho) rfl (T.nolimit.keeps F.keep) (codeRec_of (X₀.keeps F.keep) hcd) rfl hbind hcell hloc (fun h₁ hns hk₁ => ?_) hco hgen hk
  exact h _ s.heap.objs.size h₁ rfl ⟨hns, fun b o e => hk₁ b o (of_hideAll _ e), Nat.le_of_eq (hideAll_size _ _)⟩
    (fun p hp => ⟨hk₁ _ _ (N p hp).1, Nat.ne_of_lt (Heap.lt_size (N p hp).1), hideAll_none _ (List.mem_map_of_mem hp)⟩) BG (X₀.keeps st) (T.keeps st) (fun p hp => Heap.lt_size (N p hp).1)
end
end Mine
namespace Mine
structure Fresh (h h' : Heap) (e dd : Addr) (P : Value) : Prop where
  keep : Keep h h'
  new : h.get? e = none
  newd : h.get? dd = none
  obj : ∃ t, h'.get? e = some (excObjD dd t)
  own : ∃ od mA, h'.get? dd = some od ∧ OwnD od mA ∧ mA (Str.ofString "place") = some P
noncomputable def Thrown (h₀ : Heap) (l : List Env) (e : Addr) (h' : Heap) : Prop :=
  ∃ B dd od mA P oP n, Ex B h' l e (.ref 69) (some dd) .none ∧ (∀ b o, h₀.get? b = some o → b ∉ l.filterMap (·.frame) → B.get? b = some o) ∧ B.get? dd = some od ∧ OwnD od mA ∧
    mA (Str.ofString "place") = some (.ref P) ∧ B.get? P = some oP ∧ oP.cls = .type "tuple" ∧ oP.data = .seq #[] n ∧ h₀.UpToSlots h'
noncomputable def Raises (w : World) (mean : ExcName → Option Value) (mg mb : Str → Option Value) (f : Addr) (args : List Value) (n u : Nat) (s : Shared) : Prop :=
  ∀ (A A₀ : Around) (base h₀ : Heap) (outer : List Env) (env : Env) (L : Addr) (m : Str → Option Value) (Q E : Value → Shared → Prop),
    A.handled = none → A.frames = some (env :: outer) → env.frame = some L → env.scope.kind = .function → A.depth + n < recursionLimit → A.units + u < cLine →
    Below A₀ base outer h₀ → Fr h₀ L s.heap m → (Mine.hd.heap_39 w.params).In h₀ → TopH mean mg mb h₀ → KtsDicts (outer.filterMap (·.frame)) s.heap →
    (∀ e h' tk' dr', Thrown s.heap (env :: outer) e h' → E (.ref e) { s with heap := h', toks := tk', drawn := dr' }) → wpAny (model PG w) A (call (.ref f) args) Q E s
theorem fresh_of_keep {h h' : Heap} (k : ∀ b o, h.get? b = some o → h'.get? b = some o) {b : Addr} (e : h'.get? b = none) : h.get? b = none := by
  cases q : h.get? b with
  | none => rfl
  | some o => rw [k _ _ q] at e; cases e
section
variable {M : Model} {A : Around} {E : Value → Shared → Prop} {s : Shared} {base g h : Heap} {outer : List Env} {L a e dd P : Addr} {m : Str → Option Value} {name : Str} {scope : Scope} {cd : Value} {Q : Unit → Shared → Prop}
theorem frame_mem {b : Addr} (hm : b ∈ (envOf name scope L a cd :: outer).filterMap (·.frame)) : b = L ∨ b ∈ outer.filterMap (·.frame) := kts_mem hm
theorem throw_leave (K : Below A base outer g) (F : Fr g L h m) (fr : Fresh h s.heap e dd (.ref P)) (hP : IsTup g P #[]) (hoff : P ∉ outer.filterMap (·.frame))
    (hQ : ∀ h', Thrown g outer e h' → Q () { s with heap := h' }) (hk : scope.kind = .function := by rfl) : wpAny M (A.deeper (envOf name scope L a cd)) (leaving (envOf name scope L a cd) (.ref e)) Q E s := by
  have K' := K.push (name := name) (a := a) (cd := cd) F hk
  obtain ⟨t, ho⟩ := fr.obj
  obtain ⟨od, mA, hod, hown, hpl⟩ := fr.own
  have hL : g.get? L = none := kts_self F
  have hLh : (h.get? L).isSome := by obtain ⟨oL, _, _, q, _⟩ := F.ns; rw [q]; rfl
  have hin : ∀ env ∈ (envOf name scope L a cd :: outer), ∀ b, env.frame = some b → b ∈ (e :: (envOf name scope L a cd :: outer).filterMap (·.frame)) := fun env he b hb => .tail _ (List.mem_filterMap.mpr ⟨env, he, hb⟩)
  have there : ∀ b ∈ (envOf name scope L a cd :: outer).filterMap (·.frame), (h.get? b).isSome := fun b hb => by
    obtain ⟨_, o, q, _⟩ := K'.frames.mem hb
    rw [q]; rfl
  have FF : s.heap.FunFrames base (envOf name scope L a cd :: outer) := K'.frames.of_keeps fun b o q _ => ⟨o, fr.keep b o q, rfl⟩
  have hnew : g.get? e = none := fresh_of_keep F.keep fr.new
  have hdd : dd ∉ e :: (envOf name scope L a cd :: outer).filterMap (·.frame) := fun hm => by
    rcases List.mem_cons.mp hm with rfl | hm
    · rw [ho] at hod; cases hod
      obtain ⟨es, ep, q, _⟩ := hown
      cases q
    · have := there _ hm; rw [fr.newd] at this; cases this
  refine ex_leave1 (base := hideAll s.heap (e :: (envOf name scope L a cd :: outer).filterMap (·.frame))) K'.stack (funFrames_hide FF hin) rfl ho (fun b o q => of_hideAll _ q) (hideAll_none _ (.head _)) rfl rfl fun h' x u => ?_
  obtain ⟨oP, hoP, hc, n, hd⟩ := hP
  have keep : ∀ b o, g.get? b = some o → b ∉ outer.filterMap (·.frame) → (hideAll s.heap (e :: (envOf name scope L a cd :: outer).filterMap (·.frame))).get? b = some o := fun b o q hb =>
    hideAll_get _ (fr.keep _ _ (F.keep _ _ q)) fun hm => by
      rcases List.mem_cons.mp hm with rfl | hm
      · rw [hnew] at q; cases q
      · rcases frame_mem hm with rfl | hm
        · rw [hL] at q; cases q
        · exact hb hm
  exact hQ h' ⟨hideAll s.heap (e :: (envOf name scope L a cd :: outer).filterMap (·.frame)), dd, od, mA, P, oP, n, x, keep, hideAll_get _ hod hdd, hown, hpl, keep _ _ hoP hoff, hc, hd, ((Heap.UpToSlots.of_keeps F.keep).trans (Heap.UpToSlots.of_keeps fr.keep)).trans u⟩
end
theorem off_frames {h₀ h : Heap} {env : Env} {outer : List Env} {L P : Addr} {m : Str → Option Value} {vs : Array Value} (F : Fr h₀ L h m) (hf : env.frame = some L) (D : KtsDicts (outer.filterMap (·.frame)) h) (hP : IsTup h P vs) : P ∉ (env :: outer).filterMap (·.frame) := by
  obtain ⟨o, ho, _, n, hd⟩ := hP
  intro hm
  rw [List.filterMap_cons, hf] at hm
  rcases List.mem_cons.mp hm with rfl | hm
  · obtain ⟨oL, es, ep, hL, q, _⟩ := F.ns
    rw [ho] at hL; cases hL
    rw [hd] at q; cases q
  · obtain ⟨oL, es, ep, hL, q⟩ := D _ hm
    rw [ho] at hL; cases hL
    rw [hd] at q; cases q
theorem ktsKeep {fs : List Addr} {g h : Heap} (D : KtsDicts fs g) (k : ∀ b o, g.get? b = some o → h.get? b = some o) : KtsDicts fs h := fun b m => by
  obtain ⟨o, es, n, ho, hd⟩ := D b m
  exact ⟨o, es, n, k _ _ ho, hd⟩
theorem ktsCons {h₀ h : Heap} {env : Env} {outer : List Env} {L : Addr} {m : Str → Option Value} (F : Fr h₀ L h m) (hf : env.frame = some L) (D : KtsDicts (outer.filterMap (·.frame)) h) : KtsDicts ((env :: outer).filterMap (·.frame)) h := by
  intro b hm
  rw [List.filterMap_cons, hf] at hm
  rcases List.mem_cons.mp hm with rfl | hm
  · obtain ⟨oL, es, ep, hL, q, _⟩ := F.ns
    exact ⟨oL, es, ep, hL, q⟩
  · exact D _ hm
theorem ne3 {h : Heap} {D T P : Addr} {v : Value} {k : Nat} (oD : h.get? D = some (listOf #[.ref T] k)) (oT : h.get? T = some { cls := .type "tuple", data := .seq #[.ref P, v] }) (oP : h.get? P = some { cls := .type "tuple", data := .seq #[] }) : @Ne Nat D T ∧ @Ne Nat D P ∧ @Ne Nat T P := by
  refine ⟨fun q => ?_, fun q => ?_, fun q => ?_⟩
  · have q' : D = T := q
    subst q'; rw [oD] at oT; have z := congrArg Obj.cls (Option.some.inj oT); injection z with z; exact absurd z (by decide)
  · have q' : D = P := q
    subst q'; rw [oD] at oP; have z := congrArg Obj.cls (Option.some.inj oP); injection z with z; exact absurd z (by decide)
  · have q' : T = P := q
    subst q'; rw [oT] at oP; cases oP
end Mine
namespace Mine
section
variable {w : World} {A : Around} {E : Value → Shared → Prop} {s : Shared} {env : Env}
theorem for1 {elts : List PySem.Expr} {kk : Nat} {tp pos : Pos} {iter : PySem.Expr} {body orelse : List Stmt} {Q : Flow → Shared → Prop} (hh : A.handled = none) (hs : ∀ x, foldedSetIterable iter env x = pure x)
    (hit : wpAny (model PG w) A (eval iter env) (fun xv s₁ => ∃ D T k, xv = .ref D ∧ s₁.heap.get? D = some (listOf #[.ref T] k) ∧
      ∀ I h' oI, Keep s₁.heap h' → s₁.heap.get? I = none → h'.get? I = some oI →
        wpAny (model PG w) A (assign (.Tuple elts kk tp) env (.ref T)) (fun _ s₂ => wpAny (model PG w) A (execs body env)
          (fun f s₃ => f = .next ∧ s₃.heap.get? I = some oI ∧ s₃.heap.get? D = some (listOf #[.ref T] k) ∧ ∀ h'', (∀ b o, b ≠ I → s₃.heap.get? b = some o → h''.get? b = some o) →
            wpAny (model PG w) A (execs orelse env) Q (notedBy (model PG w) A env (cameBackBy (model PG w) A env E)) { s₃ with heap := h'' })
          (notedBy (model PG w) A env (cameBackBy (model PG w) A env E)) s₂) (notedBy (model PG w) A env (cameBackBy (model PG w) A env E)) { s₁ with heap := h' }) E s) :
    wpAny (model PG w) A (exec (.For (.Tuple elts kk tp) iter body orelse pos) env) Q E s := by
  rw [arm_exec_For]
  refine wpAny_bind (wpAny_standAt (wpAny_bind (wpAny_mono hit (fun xv s₁ h₁ => ?_) fun _ _ x => x)))
  obtain ⟨D, T, k, rfl, hD, hb⟩ := h₁
  refine wpAny_bind (wpAny_of_eq (hs _) (wpAny_bind (wpAny_standAt (wpAny_bind (wpAny_holding ?_)))))
  refine wpAny_pyIter_list ⟨_, hD, rfl, k, rfl⟩ (wpAny_runOwn ?_)
  rw [Around.mark_none]
  have hI : (s₁.heap.push { cls := .type "list_iterator", data := .fields #[.ref D, .int 0 0] }).get? s₁.heap.objs.size = some { cls := .type "list_iterator", data := .fields #[.ref D, .int 0 0] } := Heap.get?_push_at rfl rfl
  have hDI : D ≠ s₁.heap.objs.size := Nat.ne_of_lt (Heap.lt_size hD)
  have hD1 : (s₁.heap.push { cls := .type "list_iterator", data := .fields #[.ref D, .int 0 0] }).get? D = some (listOf #[.ref T] k) := Heap.get?_push_of_some _ hD
  refine codeAny_forLoop_any (fun n s' => (n = 2 ∧ s' = { s₁ with heap := s₁.heap.push { cls := .type "list_iterator", data := .fields #[.ref D, .int 0 0] } }) ∨
    (n = 1 ∧ s'.heap.IsListIter s₁.heap.objs.size D 1 ∧ s'.heap.get? D = some (listOf #[.ref T] k) ∧ ∀ h'', (∀ b o, b ≠ s₁.heap.objs.size → s'.heap.get? b = some o → h''.get? b = some o) →
      wpAny (model PG w) A (execs orelse env) Q (notedBy (model PG w) A env (cameBackBy (model PG w) A env E)) { s' with heap := h'' })) ?_ 2 (.inl ⟨rfl, rfl⟩)
  rintro n s' (⟨rfl, rfl⟩ | ⟨rfl, hIt, hD', hq⟩)
  · refine wpAny_pyNext_list_item (l := D) (i := 0) (items := #[.ref T]) (x := .ref T) ⟨_, hI, rfl, rfl⟩ ⟨_, hD1, rfl, k, rfl⟩ rfl fun h' hit' hsb => ?_
    obtain ⟨oI, hoI, hr⟩ := id hit'
    refine wpAny_letOwnedTupleGo_listiter hit' ?_
    refine wpAny_mono (hb s₁.heap.objs.size h' oI (fun b o q => hsb.extBut b o (Nat.ne_of_lt (Heap.lt_size q)) (Heap.get?_push_of_some _ q)) (none_size _) hoI) (fun _ s₂ h₂ => wpAny_mono h₂ (fun f s₃ h₃ => ?_) fun _ _ x => x) fun _ _ x => x
    obtain ⟨rfl, a, b, c⟩ := h₃
    exact ⟨1, Nat.lt_succ_self 1, .inr ⟨rfl, ⟨oI, a, hr⟩, b, c⟩⟩
  · refine wpAny_pyNext_list_end (l := D) (i := 1) (items := #[.ref T]) hh hIt ⟨_, hD', rfl, k, rfl⟩ rfl fun h' he => ?_
    exact hq h' he
end
theorem thrown_weaken {g h : Heap} {envt : Env} {l : List Env} {L : Addr} {B : Heap} (hft : envt.frame = some L) (hk : ∀ b o, g.get? b = some o → h.get? b = some o) (hL : g.get? L = none)
    (keep : ∀ b o, h.get? b = some o → b ∉ (envt :: l).filterMap (·.frame) → B.get? b = some o) : ∀ b o, g.get? b = some o → b ∉ l.filterMap (·.frame) → B.get? b = some o := fun b o q hb => keep b o (hk b o q) fun hm => by
  rw [List.filterMap_cons, hft] at hm
  rcases List.mem_cons.mp hm with rfl | hm
  · rw [hL] at q; cases q
  · exact hb hm
theorem thrown_loop {M : Model} {A' : Around} {E' E'' : Value → Shared → Prop} {s : Shared} {g ht : Heap} {envt : Env} {l : List Env} {L e : Addr} (hfr : A'.frames = some (envt :: l)) (hft : envt.frame = some L) (th : Thrown ht (envt :: l) e s.heap)
    (hk : ∀ b o, g.get? b = some o → ht.get? b = some o) (hL : g.get? L = none) (hQ : ∀ h', Thrown g l e h' → E' (.ref e) { s with heap := h' }) :
    notedBy M A' envt (cameBackBy M A' envt (fun e s' => wpAny M A' (leaving envt e) (fun _ s'' => E' e s'') E'' s')) (.ref e) s := by
  obtain ⟨B, dd, od, mA, P, oP, n, x, keep, hod, hown, hpl, hoP, hc, hd, u⟩ := th
  unfold notedBy
  refine ex_note hfr hft x rfl fun h1 x1 u1 => ?_
  refine ex_back (s := { s with heap := h1 }) x1 fun h2 x2 u2 => ?_
  rw [hft] at x2
  refine ex_leaveAgain (s := { s with heap := h2 }) hft x2 fun h3 x3 u3 => ?_
  exact hQ h3 ⟨B, dd, od, mA, P, oP, n, x3, thrown_weaken hft hk hL keep, hod, hown, hpl, hoP, hc, hd, (Heap.UpToSlots.of_keeps hk).trans (u.trans (u1.trans (u2.trans u3)))⟩
end Mine
namespace Mine
section
variable {w : World} {A : Around} {E : Value → Shared → Prop} {s : Shared} {g : Heap} {L D : Addr} {m : Str → Option Value} {env : Env} {news : List (Addr × Obj)}
theorem compNoneA {elt iter : PySem.Expr} {x y : Str} {px py : Pos} {scope : Scope} {cl : List (Str × Addr)} {pos spos : Pos} {Q : Flow → Shared → Prop} (hh : A.handled = none)
    (hsw : swapsWith (.ListComp elt [⟨.Name x px, iter, [], 0⟩] scope pos) (some (.Name y py)) spos.line env = pure true)
    (hclos : closureFor scope env = pure cl) (hcell : ∀ z ∈ scope.names, z.2 ≠ .cell) (hkind : scope.kind = .function)
    (hnames : ∀ z ∈ scope.names, z.2 = .local → scope.names.lookup z.1 = some .local) (hx : scope.names.lookup x = some .local)
    (hs : ∀ x, foldedSetIterable iter env x = pure x)
    (hy : env.kindOf y = some .local) (hp : (env.scope.kind == .class || (env.scope.kind == .module && env.locals != env.globals)) = false) (hL : env.locals = L)
    (hit : wpAny (model PG w) A (eval iter env) (fun xv s₁ => ∃ r t u v m news, xv = .ref r ∧ IsRange s₁.heap r 0 0 1 t u v ∧ Fr g L s₁.heap m ∧ News g L s₁.heap news ∧
      ∀ D h' tk k, Fr g L h' (fun z => if z = y then some (.ref D) else m z) → News g L h' ((D, listOf #[] k) :: news) → (∀ p ∈ news, @Ne Nat p.1 D) → Q .next { s₁ with heap := h', toks := tk }) E s) :
    wpAny (model PG w) A (exec (.Assign [.Name y py] (.ListComp elt [⟨.Name x px, iter, [], 0⟩] scope pos) spos) env) Q E s := by
  refine wpAny_Assign_ListComp_free (fun _ => true) (fun _ _ => False) hsw hclos hcell hkind hnames hx hy hp (wpAny_mono hit (fun xv s₁ h₁ => ?_) fun _ _ e => e) hs
  obtain ⟨r, t, u, v, m, news, rfl, hr, F, N, done⟩ := h₁
  subst hL
  refine wpAny_pyIter_range hr (by decide) ?_
  have hsz : Builtin.Range.rangeSize 0 0 1 = 0 := by decide
  rw [hsz]
  have W0 := Walks.range (prog := PG) (w := w) hh s₁.heap.objs.size 0 1 0
  have W : Walks PG w A s₁.heap.objs.size [s₁.heap.objs.size] [s₁.heap.objs.size] 0 (fun _ _ => False) (fun i h => IsRangeIter h s₁.heap.objs.size (0 + (i : Nat) * 1) (((0 : Nat) : Int) - (i : Nat)) 1) :=
    { sub := W0.sub, frame := W0.frame, item := fun i s Q E hi => absurd hi (Nat.not_lt_zero _), done := W0.done, self := W0.self }
  have hk : Keep s₁.heap (s₁.heap.push { cls := .type "range_iterator", data := .fields #[rawInt 0, rawInt 0, rawInt 1] }) := fun b o e => Heap.get?_push_of_some _ e
  refine ⟨_, _, _, _, _, _, m, rfl, W, by decide, ?_, ?_, ?_, ?_, ?_, ?_⟩
  · have := Heap.get?_push_size s₁.heap (o := { cls := .type "range_iterator", data := .fields #[rawInt 0, rawInt 0, rawInt 1] }) rfl
    simpa using this
  · intro b hb
    rw [List.mem_singleton.mp hb]
    show _ < (s₁.heap.push _).objs.size
    rw [Heap.size_push]; exact Nat.lt_succ_self _
  · intro hb
    obtain ⟨oL, _, _, hL, _⟩ := F.ns
    have := Heap.lt_size hL
    rw [List.mem_singleton.mp hb] at this; exact Nat.lt_irrefl _ this
  · exact (Keep.fr hk F).ns
  · exact ⟨fun C i v s₃ m₃ E' _ hP => hP.elim, fun C i v s₃ m₃ E' _ hP => hP.elim⟩
  · intro D h' tk ys vs hD hl hpl hlen hP hF hns hkk
    have e : vs = [] := List.length_eq_zero_iff.mp hlen
    subst e
    simp only [List.filter_nil] at hF
    have e2 : ys = #[] := by
      generalize hz : ys.toList = z at hF
      cases hF; simpa using hz
    subst e2
    obtain ⟨k, ho⟩ := hpl
    have hD' : s₁.heap.get? D = none := by
      cases q : s₁.heap.get? D with
      | none => rfl
      | some o => rw [hk D o q] at hD; cases hD
    have hg : g.get? D = none := by
      cases q : g.get? D with
      | none => rfl
      | some o => rw [F.keep D o q] at hD'; cases hD'
    have hDL : D ≠ env.locals := by
      rintro rfl
      obtain ⟨o, _, _, ho, _⟩ := F.ns
      rw [hD'] at ho; cases ho
    have hk' : ∀ b o, b ≠ env.locals → s₁.heap.get? b = some o → h'.get? b = some o := fun b o hb e => hkk b o hb (fun hb => by
      rw [List.mem_singleton.mp hb, none_size] at e; cases e) (hk b o e)
    refine done D h' tk k ⟨hns, fun b o e => hk' b o (fun hb => by
      have := Heap.lt_size e; rw [hb] at this; exact absurd (Nat.lt_of_lt_of_le this F.above) (Nat.lt_irrefl _)) (F.keep b o e), F.above⟩ (fun p hp => ?_) (fun p hp q => ?_)
    · rcases List.mem_cons.mp hp with rfl | hp
      · exact ⟨ho, hDL, hg⟩
      · exact ⟨hk' _ _ (N p hp).2.1 (N p hp).1, (N p hp).2⟩
    · have := (N p hp).1; rw [q, hD'] at this; cases this
theorem updNews' {g h h' : Heap} {L D : Addr} {o o' : Obj} {news news' : List (Addr × Obj)} (N : News g L h news) (U : Upd D o o' news news') (hk : ∀ b ob, b ≠ D → h.get? b = some ob → h'.get? b = some ob) (ho : h'.get? D = some o') : News g L h' news' := by
  obtain ⟨pre, post, rfl, rfl, a, c⟩ := U.split
  intro p hp
  have hD := N (D, o) (by simp)
  rcases List.mem_append.mp hp with hp | hp
  · have := N p (List.mem_append.mpr (.inl hp)); exact ⟨hk _ _ (a p hp) this.1, this.2⟩
  · rcases List.mem_cons.mp hp with rfl | hp
    · exact ⟨ho, hD.2⟩
    · have := N p (List.mem_append.mpr (.inr (.tail _ hp))); exact ⟨hk _ _ (c p hp) this.1, this.2⟩
theorem updFr' {g h h' : Heap} {L D : Addr} {m : Str → Option Value} {o o' : Obj} {news news' : List (Addr × Obj)} (F : Fr g L h m) (N : News g L h news) (U : Upd D o o' news news') (hk : ∀ b ob, b ≠ D → h.get? b = some ob → h'.get? b = some ob) : Fr g L h' m := by
  obtain ⟨pre, post, rfl, rfl, a, c⟩ := U.split
  have hD := N (D, o) (by simp)
  obtain ⟨oL, es, ep, hL, r⟩ := F.ns
  exact ⟨⟨oL, es, ep, hk _ _ (Ne.symm hD.2.1) hL, r⟩, fun b ob e => hk b ob (fun q => by rw [q, hD.2.2] at e; cases e) (F.keep b ob e), F.above⟩
theorem newsBut {g h h' : Heap} {L I : Addr} {news : List (Addr × Obj)} (k : Nat) (N : News g L h news) (hk : ∀ b ob, b ≠ I → h.get? b = some ob → h'.get? b = some ob) (hne : ∀ p ∈ news.drop k, @Ne Nat p.1 I) : News g L h' (news.drop k) := fun p hp =>
  ⟨hk _ _ (hne p hp) (N p (List.mem_of_mem_drop hp)).1, (N p (List.mem_of_mem_drop hp)).2⟩
theorem frBut {g h h' : Heap} {L I : Addr} {m : Str → Option Value} {news : List (Addr × Obj)} {oI : Obj} (F : Fr g L h m) (N : News g L h news) (hI : (I, oI) ∈ news) (hk : ∀ b ob, b ≠ I → h.get? b = some ob → h'.get? b = some ob) : Fr g L h' m := by
  obtain ⟨oL, es, ep, hL, r⟩ := F.ns
  exact ⟨⟨oL, es, ep, hk _ _ (Ne.symm (N _ hI).2.1) hL, r⟩, fun b ob e => hk b ob (fun q => by rw [q, (N _ hI).2.2] at e; cases e) (F.keep b ob e), F.above⟩
noncomputable def OneKey (w : World) (P : Addr) (v : Value) (o : Obj) : Prop :=
  o.ExactDict ∧ ∃ es ep, o.data = .dict es ep ∧ es.toList = [(([] : List Int), P, v)].map (entryOfKey (tupleKind (intKind PG w)))
theorem isKey {h : Heap} {P : Addr} (hP : IsTup h P #[]) : (tupleKind (intKind PG w)).is h [] P := by
  obtain ⟨o, ho, hc, n, hd⟩ := hP
  exact ⟨o, #[], n, ho, hc, hd, .nil⟩
theorem keySet {P : Addr} {v : Value} {oD : Obj} {news' : Obj → List (Addr × Obj)} {Q : Unit → Shared → Prop} (F : Fr g L s.heap m) (N : News g L s.heap news) (U : ∀ o', Upd D oD o' news (news' o')) (hD : oD.IsDictOf (intKind PG w) []) (hP : IsTup s.heap P #[]) (hu : A.units + 20 < cLine)
    (h : ∀ oD' h' tk, Fr g L h' m → News g L h' (news' oD') → OneKey w P v oD' → Q () { s with heap := h', toks := tk }) : wpAny (model PG w) A (setItem (.ref D) (.ref P) v) Q E s := by
  have hm : (D, oD) ∈ news := by
    obtain ⟨pre, post, e1, e2, a, c⟩ := (U oD).split
    rw [e1]; simp
  obtain ⟨es, ep, hc, hdat, _, hp, _⟩ := hD
  have he : es.toList = [] := List.length_eq_zero_iff.mp hp.length
  have hDH : s.heap.DictOfH (tupleKind (intKind PG w)) D [] := ⟨oD, es, ep, N.get hm, hc, hdat, by rw [he]; rfl, fun _ hx => by simp at hx, List.nodup_nil⟩
  refine wpAny_setItem_heap (knd := tupleKind (intKind PG w)) (k := []) (tupleKind_room_in1 (by omega)) (isKey hP) hDH fun h' hm' hs => ?_
  obtain ⟨o', es', ep', ho', hc', hd', he', _, hn'⟩ := hm'
  refine h o' h' _ ?_ ?_ ⟨hc', es', ep', hd', he'⟩
  · exact updFr' F N (U o') (fun b ob hb e => (hs.2 b hb).trans e)
  · exact updNews' N (U o') (fun b ob hb e => (hs.2 b hb).trans e) ho'
theorem keyGet {P P₀ : Addr} {v : Value} {oD : Obj} {value slice : PySem.Expr} {Q : Value → Shared → Prop} (N : News g L s.heap news) (hD : (D, oD) ∈ news) (K1 : OneKey w P₀ v oD) (hP₀ : IsTup s.heap P₀ #[]) (hP : IsTup s.heap P #[]) (hu : A.units + 20 < cLine)
    (h : ∀ tk, Q v { s with toks := tk })
    (hs : subscripted slice false (.ref D) (.ref P) = operate [.ref D, .ref P] (getItem (.ref D) (.ref P))) (hg : ∀ r, letTemporaryGo value (.ref D) r = pure ()) :
    wpAny (model PG w) A (subscriptTail value slice (.ref D) (.ref P)) Q E s := by
  obtain ⟨hc, es, ep, hdat, he⟩ := K1
  have hDH : s.heap.DictOfH (tupleKind (intKind PG w)) D [([], P₀, v)] := ⟨oD, es, ep, N.get hD, hc, hdat, he, fun x hx => by
    rw [List.mem_singleton.mp hx]; exact isKey hP₀, by simp⟩
  exact subscriptTail_builtin hDH.typeIs slot_dict_getitem.lookup (wpAny_getItem_heap (knd := tupleKind (intKind PG w)) (k := []) (tupleKind_room_in1 (by omega)) (isKey hP) hDH (p := (P₀, v)) (by simp [atKey]) (h _)) hs hg
end
end Mine
namespace Mine
theorem up_ns {g h : Heap} {L : Addr} {m : Str → Option Value} (u : g.UpToSlots h) (n : g.Ns L m) : h.Ns L m := by
  obtain ⟨o, es, ep, ho, hd, r⟩ := n
  obtain ⟨sl, hs⟩ := u L o ho (fun vs q => by rw [hd] at q; cases q)
  exact ⟨_, es, ep, hs, hd, r⟩
section
variable {w : World} {A : Around} {mean : ExcName → Option Value} {mg mb : Str → Option Value} {E : Value → Shared → Prop} {s' : Shared} {s₀ g h₀ : Heap} {env0 : Env} {L L' a e : Addr} {m m' : Str → Option Value} {name : Str} {scope : Scope} {cd : Value} {n x : Str} {b₀ : Stmt} {suite : List Stmt} {rest : List ExceptHandler} {pos np : Pos} {Q : Flow → Shared → Prop}
end
namespace caught_n
noncomputable def Wk (w : World) (A : Around) (mean : ExcName → Option Value) (mg : Str → Option Value) (mb : Str → Option Value) (E : Value → Shared → Prop) (s' : Shared) (s₀ : Heap) (g : Heap) (h₀ : Heap) (env0 : Env) (L : Addr) (a : Addr) (e : Addr) (m : Str → Option Value) (m' : Str → Option Value) (name : Str) (scope : Scope) (cd : Value) (n : Str) (x : Str) (b₀ : Stmt) (suite : List Stmt) (rest : List ExceptHandler) (pos : Pos) (np : Pos) (Q : Flow → Shared → Prop) : Prop := ∀ (L' : Addr) (hfr : A.frames = some [envOf name scope L' a cd, env0]) (hf0 : env0.frame = some L) (F₀ : Fr h₀ L s₀ m) (X₀ : (Mine.hd.heap_39 w.params).In h₀) (T₀ : TopH mean mg mb h₀) (F : Fr s₀ L' g m') (th : Thrown g [envOf name scope L' a cd, env0] e s'.heap) (ex : nsIn (Mine.hd.heap_39 w.params) mainGlobals x = some (some (.ref 69))) (k : ∀ h' oe od mA P tk, Fr (hideAll s₀ [L]) L' h' (fun y => if y = n then some (.ref e) else m' y) → InstAt h' e oe 69 (some od) → OwnD od mA → mA (Str.ofString "place") = some (.ref P) → IsTup h' P #[] → s₀.UpToSlots h' → (Mine.hd.heap_39 w.params).In (hideAll s₀ [L]) → TopH mean mg mb (hideAll s₀ [L]) →
      wpAny (model PG w) (A.mark (some (.ref e))) (execs (b₀ :: suite) (envOf name scope L' a cd))
        (fun f s₄ => wpAny (model PG w) A (do bindName (envOf name scope L' a cd) n .none; unbindBehindTheSuite (envOf name scope L' a cd) n pos) (fun _ s₅ => Q f s₅) E s₄)
        (AsSuiteRaised (model PG w) (A.mark (some (.ref e))) (envOf name scope L' a cd) n pos (notedBy (model PG w) (A.mark (some (.ref e))) (envOf name scope L' a cd) (cameBackBy (model PG w) A (envOf name scope L' a cd) E)))
        { s' with heap := h', toks := tk }) (hk : scope.kind = .function) (hlo : (envOf name scope L' a cd).kindOf n = some .local) (hx : (envOf name scope L' a cd).kindOf x = some .globalImplicit) (hd : (x == ("__debug__" : Str)) = false), wpAny (model PG w) A (noteFrame (.ref e) (envOf name scope L' a cd))
      (fun _ s₂ => wpAny (model PG w) A (setFlight (.ref e) none) (fun _ s₃ =>
        wpAny (model PG w) A (handleBy (.ref e) (envOf name scope L' a cd) (.ExceptHandler (some (.Name x np)) (some n) (b₀ :: suite) pos :: rest)) Q E s₃) E s₂) E s'
theorem inhab : Nonempty ((World) × (Around) × (ExcName → Option Value) × (Str → Option Value) × (Str → Option Value) × (Value → Shared → Prop) × (Shared) × (Heap) × (Heap) × (Heap) × (Env) × (Addr) × (Addr) × (Addr) × (Str → Option Value) × (Str → Option Value) × (Str) × (Scope) × (Value) × (Str) × (Str) × (Stmt) × (List Stmt) × (List ExceptHandler) × (Pos) × (Pos) × (Flow → Shared → Prop)) := ⟨((aWorld 1), ({}), (fun _ => none), (fun _ => none), (fun _ => none), (fun _ _ => True), ({}), ({}), ({}), ({}), (envAt 85 0), (0), (0), (0), (fun _ => none), (fun _ => none), (Str.ofString "a"), (default), (.none), (Str.ofString "a"), (Str.ofString "a"), (default), (default), (default), (default), (default), (fun _ _ => True))⟩
noncomputable def cc : (World) × (Around) × (ExcName → Option Value) × (Str → Option Value) × (Str → Option Value) × (Value → Shared → Prop) × (Shared) × (Heap) × (Heap) × (Heap) × (Env) × (Addr) × (Addr) × (Addr) × (Str → Option Value) × (Str → Option Value) × (Str) × (Scope) × (Value) × (Str) × (Str) × (Stmt) × (List Stmt) × (List ExceptHandler) × (Pos) × (Pos) × (Flow → Shared → Prop) := pickA inhab fun c => Wk c.1 c.2.1 c.2.2.1 c.2.2.2.1 c.2.2.2.2.1 c.2.2.2.2.2.1 c.2.2.2.2.2.2.1 c.2.2.2.2.2.2.2.1 c.2.2.2.2.2.2.2.2.1 c.2.2.2.2.2.2.2.2.2.1 c.2.2.2.2.2.2.2.2.2.2.1 c.2.2.2.2.2.2.2.2.2.2.2.1 c.2.2.2.2.2.2.2.2.2.2.2.2.1 c.2.2.2.2.2.2.2.2.2.2.2.2.2.1 c.2.2.2.2.2.2.2.2.2.2.2.2.2.2.1 c.2.2.2.2.2.2.2.2.2.2.2.2.2.2.2.1 c.2.2.2.2.2.2.2.2.2.2.2.2.2.2.2.2.1 c.2.2.2.2.2.2.2.2.2.2.2.2.2.2.2.2.2.1 c.2.2.2.2.2.2.2.2.2.2.2.2.2.2.2.2.2.2.1 c.2.2.2.2.2.2.2.2.2.2.2.2.2.2.2.2.2.2.2.1 c.2.2.2.2.2.2.2.2.2.2.2.2.2.2.2.2.2.2.2.2.1 c.2.2.2.2.2.2.2.2.2.2.2.2.2.2.2.2.2.2.2.2.2.1 c.2.2.2.2.2.2.2.2.2.2.2.2.2.2.2.2.2.2.2.2.2.2.1 c.2.2.2.2.2.2.2.2.2.2.2.2.2.2.2.2.2.2.2.2.2.2.2.1 c.2.2.2.2.2.2.2.2.2.2.2.2.2.2.2.2.2.2.2.2.2.2.2.2.1 c.2.2.2.2.2.2.2.2.2.2.2.2.2.2.2.2.2.2.2.2.2.2.2.2.2.1 c.2.2.2.2.2.2.2.2.2.2.2.2.2.2.2.2.2.2.2.2.2.2.2.2.2.2
@[irreducible] noncomputable def w : World := cc.1
@[irreducible] noncomputable def A : Around := cc.2.1
@[irreducible] noncomputable def mean : ExcName → Option Value := cc.2.2.1
@[irreducible] noncomputable def mg : Str → Option Value := cc.2.2.2.1
@[irreducible] noncomputable def mb : Str → Option Value := cc.2.2.2.2.1
@[irreducible] noncomputable def E : Value → Shared → Prop := cc.2.2.2.2.2.1
@[irreducible] noncomputable def s' : Shared := cc.2.2.2.2.2.2.1
@[irreducible] noncomputable def s₀ : Heap := cc.2.2.2.2.2.2.2.1
@[irreducible] noncomputable def g : Heap := cc.2.2.2.2.2.2.2.2.1
@[irreducible] noncomputable def h₀ : Heap := cc.2.2.2.2.2.2.2.2.2.1
@[irreducible] noncomputable def env0 : Env := cc.2.2.2.2.2.2.2.2.2.2.1
@[irreducible] noncomputable def L : Addr := cc.2.2.2.2.2.2.2.2.2.2.2.1
@[irreducible] noncomputable def a : Addr := cc.2.2.2.2.2.2.2.2.2.2.2.2.1
@[irreducible] noncomputable def e : Addr := cc.2.2.2.2.2.2.2.2.2.2.2.2.2.1
@[irreducible] noncomputable def m : Str → Option Value := cc.2.2.2.2.2.2.2.2.2.2.2.2.2.2.1
@[irreducible] noncomputable def m' : Str → Option Value := cc.2.2.2.2.2.2.2.2.2.2.2.2.2.2.2.1
@[irreducible] noncomputable def name : Str := cc.2.2.2.2.2.2.2.2.2.2.2.2.2.2.2.2.1
@[irreducible] noncomputable def scope : Scope := cc.2.2.2.2.2.2.2.2.2.2.2.2.2.2.2.2.2.1
@[irreducible] noncomputable def cd : Value := cc.2.2.2.2.2.2.2.2.2.2.2.2.2.2.2.2.2.2.1
@[irreducible] noncomputable def n : Str := cc.2.2.2.2.2.2.2.2.2.2.2.2.2.2.2.2.2.2.2.1
@[irreducible] noncomputable def x : Str := cc.2.2.2.2.2.2.2.2.2.2.2.2.2.2.2.2.2.2.2.2.1
@[irreducible] noncomputable def b₀ : Stmt := cc.2.2.2.2.2.2.2.2.2.2.2.2.2.2.2.2.2.2.2.2.2.1
@[irreducible] noncomputable def suite : List Stmt := cc.2.2.2.2.2.2.2.2.2.2.2.2.2.2.2.2.2.2.2.2.2.2.1
@[irreducible] noncomputable def rest : List ExceptHandler := cc.2.2.2.2.2.2.2.2.2.2.2.2.2.2.2.2.2.2.2.2.2.2.2.1
@[irreducible] noncomputable def pos : Pos := cc.2.2.2.2.2.2.2.2.2.2.2.2.2.2.2.2.2.2.2.2.2.2.2.2.1
@[irreducible] noncomputable def np : Pos := cc.2.2.2.2.2.2.2.2.2.2.2.2.2.2.2.2.2.2.2.2.2.2.2.2.2.1
@[irreducible] noncomputable def Q : Flow → Shared → Prop := cc.2.2.2.2.2.2.2.2.2.2.2.2.2.2.2.2.2.2.2.2.2.2.2.2.2.2
theorem here : Wk w A mean mg mb E s' s₀ g h₀ env0 L a e m m' name scope cd n x b₀ suite rest pos np Q := by
  unfold Wk
  intro L' hfr hf0 F₀ X₀ T₀ F th ex k hk hlo hx hd
  obtain ⟨B, dd, od, mA, P, oP, n', xx, keep, hod, hown, hpl, hoP, hc, hd', u⟩ := th
  have hgL' : s₀.get? L' = none := kts_self F
  have hL0 : h₀.get? L = none := kts_self F₀
  have keepG : ∀ b o, h₀.get? b = some o → (hideAll s₀ [L]).get? b = some o := fun b o q => hideAll_get _ (F₀.keep _ _ q) fun hm => by
    rw [List.mem_singleton.mp hm, hL0] at q; cases q
  have X : (Mine.hd.heap_39 w.params).In (hideAll s₀ [L]) := X₀.keeps keepG
  have T : TopH mean mg mb (hideAll s₀ [L]) := T₀.keeps keepG
  have up0 : s₀.UpToSlots g := Heap.UpToSlots.of_keeps F.keep
  have mk : ∀ h', B.StaysIn h' → g.UpToSlots h' → Fr (hideAll s₀ [L]) L' h' m' := fun h' hB hu => by
    refine ⟨up_ns hu F.ns, fun b o q => ?_, by rw [hideAll_size]; exact F.above⟩
    have q' := of_hideAll _ q
    refine hB _ _ (keep _ _ (F.keep _ _ q') fun hm => ?_)
    have hfL : (envOf name scope L' a cd).frame = some L' := rfl
    rw [List.filterMap_cons, hfL, List.filterMap_cons, hf0, List.filterMap_nil] at hm
    rcases List.mem_cons.mp hm with rfl | hm
    · rw [hgL'] at q'; cases q'
    · rcases List.mem_cons.mp hm with rfl | hm
      · rw [hideAll_none _ (.head _)] at q; cases q
      · exact absurd hm (List.not_mem_nil)
  refine ex_note hfr rfl xx rfl fun h1 x1 u1 => ?_
  refine ex_flight (s := { s' with heap := h1 }) x1 fun h2 x2 u2 => ?_
  have F2 := mk h2 x2.1 (u.trans (u1.trans u2))
  obtain ⟨nm, qn, N, bs, bm, hdct, sn, sub, ab, col, dd0, k0, k1, k2, k3, k5, hC, V⟩ := fault_cls X
  have hC2 := F2.keep _ _ hC
  have x2' := x2
  obtain ⟨hkb, hen, hl, oe, vs, Tb, oT, ts, he, hcl, hdi, hda, _⟩ := x2
  refine wpAny_handleBy_cons (codeAny_handlers_test (name_K (s := { s' with heap := h2 }) F2 X (topRead_of T) ex ?_ hk hx hd)) (by intro q; cases q)
  refine wpAny_excMatches_sub_self hC2 he hcl V.hasB (codeAny_handlers_suite_as ?_)
  refine ex_flight (s := { s' with heap := h2 }) x2' fun h3 x3 u3 => ?_
  have F3 := mk h3 x3.1 (u.trans (u1.trans (u2.trans u3)))
  have hmL : L' ∈ [envOf name scope L' a cd, env0].filterMap (·.frame) := List.mem_filterMap.mpr ⟨_, .head _, rfl⟩
  obtain ⟨hkb3, hen3, hl3, oe3, vs3, Tb3, oT3, ts3, he3, hcl3, hdi3, hda3, _⟩ := x3
  obtain ⟨hBL, oL, hoL, hnf⟩ := hl3.mem hmL
  refine wpAny_storeName_local hlo F3.ns (fun h4 hn4 hs4 => ?_) (by show (scope.kind == .class || (scope.kind == .module && L' != mainGlobals)) = false; rw [hk]; rfl)
  have neE : e ≠ L' := by
    rintro rfl
    rw [he3] at hoL; cases hoL
    exact hnf _ hda3
  have neD : dd ≠ L' := by rintro rfl; rw [hBL] at hod; cases hod
  have neP : P ≠ L' := by rintro rfl; rw [hBL] at hoP; cases hoP
  refine k h4 oe3 od mA P _ (F3.set hn4 hs4) ⟨(hs4.2 _ neE).trans he3, hcl3, by unfold notCls; rw [hda3], ?_⟩ hown hpl ⟨oP, (hs4.2 _ neP).trans (hkb3 _ _ hoP), hc, _, hd'⟩ ?_ X T
  · rw [hdi3]; exact (hs4.2 _ neD).trans (hkb3 _ _ hod)
  · intro b o hb hnf'
    have hne : b ≠ L' := by rintro rfl; rw [hgL'] at hb; cases hb
    obtain ⟨sl, hsl⟩ := (up0.trans (u.trans (u1.trans (u2.trans u3)))) b o hb hnf'
    exact ⟨sl, (hs4.2 _ hne).trans hsl⟩
theorem all : ∀ c : (World) × (Around) × (ExcName → Option Value) × (Str → Option Value) × (Str → Option Value) × (Value → Shared → Prop) × (Shared) × (Heap) × (Heap) × (Heap) × (Env) × (Addr) × (Addr) × (Addr) × (Str → Option Value) × (Str → Option Value) × (Str) × (Scope) × (Value) × (Str) × (Str) × (Stmt) × (List Stmt) × (List ExceptHandler) × (Pos) × (Pos) × (Flow → Shared → Prop), Wk c.1 c.2.1 c.2.2.1 c.2.2.2.1 c.2.2.2.2.1 c.2.2.2.2.2.1 c.2.2.2.2.2.2.1 c.2.2.2.2.2.2.2.1 c.2.2.2.2.2.2.2.2.1 c.2.2.2.2.2.2.2.2.2.1 c.2.2.2.2.2.2.2.2.2.2.1 c.2.2.2.2.2.2.2.2.2.2.2.1 c.2.2.2.2.2.2.2.2.2.2.2.2.1 c.2.2.2.2.2.2.2.2.2.2.2.2.2.1 c.2.2.2.2.2.2.2.2.2.2.2.2.2.2.1 c.2.2.2.2.2.2.2.2.2.2.2.2.2.2.2.1 c.2.2.2.2.2.2.2.2.2.2.2.2.2.2.2.2.1 c.2.2.2.2.2.2.2.2.2.2.2.2.2.2.2.2.2.1 c.2.2.2.2.2.2.2.2.2.2.2.2.2.2.2.2.2.2.1 c.2.2.2.2.2.2.2.2.2.2.2.2.2.2.2.2.2.2.2.1 c.2.2.2.2.2.2.2.2.2.2.2.2.2.2.2.2.2.2.2.2.1 c.2.2.2.2.2.2.2.2.2.2.2.2.2.2.2.2.2.2.2.2.2.1 c.2.2.2.2.2.2.2.2.2.2.2.2.2.2.2.2.2.2.2.2.2.2.1 c.2.2.2.2.2.2.2.2.2.2.2.2.2.2.2.2.2.2.2.2.2.2.2.1 c.2.2.2.2.2.2.2.2.2.2.2.2.2.2.2.2.2.2.2.2.2.2.2.2.1 c.2.2.2.2.2.2.2.2.2.2.2.2.2.2.2.2.2.2.2.2.2.2.2.2.2.1 c.2.2.2.2.2.2.2.2.2.2.2.2.2.2.2.2.2.2.2.2.2.2.2.2.2.2 := pickA_all (h := inhab) (p := fun c => Wk c.1 c.2.1 c.2.2.1 c.2.2.2.1 c.2.2.2.2.1 c.2.2.2.2.2.1 c.2.2.2.2.2.2.1 c.2.2.2.2.2.2.2.1 c.2.2.2.2.2.2.2.2.1 c.2.2.2.2.2.2.2.2.2.1 c.2.2.2.2.2.2.2.2.2.2.1 c.2.2.2.2.2.2.2.2.2.2.2.1 c.2.2.2.2.2.2.2.2.2.2.2.2.1 c.2.2.2.2.2.2.2.2.2.2.2.2.2.1 c.2.2.2.2.2.2.2.2.2.2.2.2.2.2.1 c.2.2.2.2.2.2.2.2.2.2.2.2.2.2.2.1 c.2.2.2.2.2.2.2.2.2.2.2.2.2.2.2.2.1 c.2.2.2.2.2.2.2.2.2.2.2.2.2.2.2.2.2.1 c.2.2.2.2.2.2.2.2.2.2.2.2.2.2.2.2.2.2.1 c.2.2.2.2.2.2.2.2.2.2.2.2.2.2.2.2.2.2.2.1 c.2.2.2.2.2.2.2.2.2.2.2.2.2.2.2.2.2.2.2.2.1 c.2.2.2.2.2.2.2.2.2.2.2.2.2.2.2.2.2.2.2.2.2.1 c.2.2.2.2.2.2.2.2.2.2.2.2.2.2.2.2.2.2.2.2.2.2.1 c.2.2.2.2.2.2.2.2.2.2.2.2.2.2.2.2.2.2.2.2.2.2.2.1 c.2.2.2.2.2.2.2.2.2.2.2.2.2.2.2.2.2.2.2.2.2.2.2.2.1 c.2.2.2.2.2.2.2.2.2.2.2.2.2.2.2.2.2.2.2.2.2.2.2.2.2.1 c.2.2.2.2.2.2.2.2.2.2.2.2.2.2.2.2.2.2.2.2.2.2.2.2.2.2) (by with_unfolding_all exact @here)
end caught_n
theorem caught {w : World} {A : Around} {mean : ExcName → Option Value} {mg : Str → Option Value} {mb : Str → Option Value} {E : Value → Shared → Prop} {s' : Shared} {s₀ : Heap} {g : Heap} {h₀ : Heap} {env0 : Env} {L : Addr} {L' : Addr} {a : Addr} {e : Addr} {m : Str → Option Value} {m' : Str → Option Value} {name : Str} {scope : Scope} {cd : Value} {n : Str} {x : Str} {b₀ : Stmt} {suite : List Stmt} {rest : List ExceptHandler} {pos : Pos} {np : Pos} {Q : Flow → Shared → Prop} (hfr : A.frames = some [envOf name scope L' a cd, env0]) (hf0 : env0.frame = some L) (F₀ : Fr h₀ L s₀ m) (X₀ : (Mine.hd.heap_39 w.params).In h₀) (T₀ : TopH mean mg mb h₀) (F : Fr s₀ L' g m') (th : Thrown g [envOf name scope L' a cd, env0] e s'.heap) (ex : nsIn (Mine.hd.heap_39 w.params) mainGlobals x = some (some (.ref 69))) (k : ∀ h' oe od mA P tk, Fr (hideAll s₀ [L]) L' h' (fun y => if y = n then some (.ref e) else m' y) → InstAt h' e oe 69 (some od) → OwnD od mA → mA (Str.ofString "place") = some (.ref P) → IsTup h' P #[] → s₀.UpToSlots h' → (Mine.hd.heap_39 w.params).In (hideAll s₀ [L]) → TopH mean mg mb (hideAll s₀ [L]) →
      wpAny (model PG w) (A.mark (some (.ref e))) (execs (b₀ :: suite) (envOf name scope L' a cd))
        (fun f s₄ => wpAny (model PG w) A (do bindName (envOf name scope L' a cd) n .none; unbindBehindTheSuite (envOf name scope L' a cd) n pos) (fun _ s₅ => Q f s₅) E s₄)
        (AsSuiteRaised (model PG w) (A.mark (some (.ref e))) (envOf name scope L' a cd) n pos (notedBy (model PG w) (A.mark (some (.ref e))) (envOf name scope L' a cd) (cameBackBy (model PG w) A (envOf name scope L' a cd) E)))
        { s' with heap := h', toks := tk }) (hk : scope.kind = .function := by rfl) (hlo : (envOf name scope L' a cd).kindOf n = some .local := by rfl) (hx : (envOf name scope L' a cd).kindOf x = some .globalImplicit := by rfl) (hd : (x == ("__debug__" : Str)) = false := by decide) :
    wpAny (model PG w) A (noteFrame (.ref e) (envOf name scope L' a cd))
      (fun _ s₂ => wpAny (model PG w) A (setFlight (.ref e) none) (fun _ s₃ =>
        wpAny (model PG w) A (handleBy (.ref e) (envOf name scope L' a cd) (.ExceptHandler (some (.Name x np)) (some n) (b₀ :: suite) pos :: rest)) Q E s₃) E s₂) E s' :=
  caught_n.all (w, A, mean, mg, mb, E, s', s₀, g, h₀, env0, L, a, e, m, m', name, scope, cd, n, x, b₀, suite, rest, pos, np, Q) L' hfr hf0 F₀ X₀ T₀ F th ex k hk hlo hx hd
section
variable {w : World} {A : Around} {mean : ExcName → Option Value} {mg mb : Str → Option Value} {E : Value → Shared → Prop} {s' : Shared} {s₀ g h₀ : Heap} {env0 : Env} {L L' a e : Addr} {m m' : Str → Option Value} {name : Str} {scope : Scope} {cd : Value} {n x : Str} {b₀ : Stmt} {suite : List Stmt} {rest : List ExceptHandler} {pos np : Pos} {Q : Flow → Shared → Prop}
end
theorem find_place {w : World} {od : Obj} {mA : Str → Option Value} {P : Addr} (hown : OwnD od mA) (hpl : mA (Str.ofString "place") = some (.ref P)) : findObj (Mine.hd.heap_39 w.params) 69 (some od) (Str.ofString "place") = some (.value (.ref P)) := by
  have e1 : ∃ cd, clsIn (Mine.hd.heap_39 w.params) 69 = some cd ∧ ownOf cd (some od) (Str.ofString "place") = some (some (.ref P)) := ⟨_, rfl, by
    have := own_look hown hpl
    first | exact this | (unfold ownOf; simp [this])⟩
  have e2 : findIn (Mine.hd.heap_39 w.params) (.ref 69) (Str.ofString "place") = some none := by kernel_rfl
  obtain ⟨cd, h1, h2⟩ := e1
  unfold findObj
  rw [h1, e2]
  simp only [Option.bind_some, h2]
end Mine
namespace Mine
section
variable {mean : ExcName → Option Value} {mg mb : Str → Option Value} {w : World} {A₀ A : Around} {s : Shared} {base h₀ : Heap} {outer : List Env} {L : Addr} {m : Str → Option Value} {env : Env} {K : Frag}
  {R : Result → Shared → Prop} {name qual : Str} {params : Arguments} {body : List Stmt} {scope : Scope} {dV kV doc pm cdv ct oc : Value} {an od : Option Addr} {osl : Array (Option Value)} {f : Addr} {args : Args} {binds : List (Str × Value)} {news : List (Addr × Obj)}
theorem callFN (B : Below A₀ base outer h₀) (F : Fr h₀ L s.heap m) (X₀ : K.In h₀) (N : News h₀ L s.heap news) (T : TopH mean mg mb h₀) (hA : A.frames = some (env :: outer)) (hf : env.frame = some L) (hke : env.scope.kind = .function)
    (ho : K.lookup f = some ⟨oc, od, .func (fnOf name qual params body scope dV kV doc pm an cdv ct), osl⟩) (hcd : codeIn K cdv qual = true) (hroom : A.depth < recursionLimit)
    (hbind : BindsTo s (fnOf name qual params body scope dV kV doc pm an cdv ct) args binds) (hloc : ∀ y ∈ binds, scope.names.lookup y.1 = some .local)
    (h : ∀ g L' h₁, g = hideAll s.heap (news.map (·.1)) → Fr g L' h₁ (fun y => binds.reverse.lookup y) → News g L' h₁ news → Below A base (env :: outer) g → K.In g → TopH mean mg mb g → (∀ p ∈ news, p.1 < L') →
      wpAny (model PG w) (A.deeper (envOf qual scope L' f cdv)) (execs body (envOf qual scope L' f cdv))
        (fun fl s' => R (.ok (.ret (match fl with | .ret v => v | _ => .none))) s')
        (fun e s' => wpAny (model PG w) (A.deeper (envOf qual scope L' f cdv)) (leaving (envOf qual scope L' f cdv) e) (fun _ s'' => R (.error e) s'') (fun e' s'' => R (.error e') s'') s')
        { s with heap := h₁, toks := s.toks + binds.length })
    (hcell : ∀ x ∈ scope.names, x.2 ≠ .cell) (hco : scope.isCoroutine = false := by rfl) (hgen : scope.isGenerator = false := by rfl) (hk : scope.kind = .function := by rfl) :
    codeAny (model PG w) A (.call (.ref f) args) R s := by
  obtain ⟨FG, BG, st, lv⟩ := groundX (R := R) B F N hA hf hke
  refine codeAny_call_def (fd := fnOf name qual params body scope dV kV doc pm an cdv ct) (body := body) (binds := binds) hroom ((X₀.keeps F.keep) _ _ ho) rfl (T.nolimit.keeps F.keep) (codeRec_of (X₀.keeps F.keep) hcd) rfl hbind hcell hloc (fun h₁ hns hk₁ => ?_) hco hgen hk
  exact h _ s.heap.objs.size h₁ rfl ⟨hns, fun b o e => hk₁ b o (of_hideAll _ e), Nat.le_of_eq (hideAll_size _ _)⟩
    (fun p hp => ⟨hk₁ _ _ (N p hp).1, Nat.ne_of_lt (Heap.lt_size (N p hp).1), hideAll_none _ (List.mem_map_of_mem hp)⟩) BG (X₀.keeps st) (T.keeps st) (fun p hp => Heap.lt_size (N p hp).1)
end
end Mine
namespace Mine
mutual
noncomputable def rdF : Nat → Frag → Value → Option PyData
  | 0, _, _ => none
  | _ + 1, _, .str x _ => some (.str x)
  | _ + 1, _, .int i _ => some (.int i)
  | n + 1, K, .ref a => match K.lookup a with
    | some ⟨.type "tuple", _, .seq vs _, _⟩ => (rdA n K vs.toList).map .tuple
    | _ => none
  | _ + 1, _, _ => none
noncomputable def rdA : Nat → Frag → List Value → Option (List PyData)
  | 0, _, _ => none
  | _ + 1, _, [] => some []
  | n + 1, K, v :: r => match rdF n K v, rdA n K r with
    | some d, some ds => some (d :: ds)
    | _, _ => none
end
theorem rd_sound {K : Frag} {h : Heap} (X : K.In h) : ∀ n, (∀ v d, rdF n K v = some d → Reads h v d []) ∧ (∀ vs ds, rdA n K vs = some ds → ReadsAll h vs ds []) := by
  intro n
  induction n with
  | zero => exact ⟨fun v d e => by simp [rdF] at e, fun vs ds e => by simp [rdA] at e⟩
  | succ n ih =>
    refine ⟨fun v d e => ?_, fun vs ds e => ?_⟩
    · cases v with
      | str x t => simp [rdF] at e; subst e; exact .str x t
      | int i t => simp [rdF] at e; subst e; exact .int i t
      | ref a =>
        simp only [rdF] at e
        split at e
        · rename_i od vs k sl q
          cases hr : rdA n K vs.toList with
          | none => rw [hr] at e; cases e
          | some ds =>
            rw [hr] at e
            simp only [Option.map_some, Option.some.injEq] at e
            subst e
            exact .tuple (X _ _ q) rfl rfl (ih.2 _ _ hr)
        · cases e
      | _ => simp [rdF] at e
    · cases vs with
      | nil => simp [rdA] at e; subst e; exact .nil
      | cons v r =>
        simp only [rdA] at e
        split at e
        · rename_i d ds q1 q2
          cases e
          exact ReadsAll.cons (ih.1 _ _ q1) (ih.2 _ _ q2)
        · cases e
abbrev st (x : String) : PyData := .str (Str.ofString x)
abbrev tp (xs : List PyData) : PyData := .tuple xs
noncomputable def kindsS : List Str := [Str.ofString "same", Str.ofString "told", Str.ofString "rule", Str.ofString "turn", Str.ofString "join", Str.ofString "under", Str.ofString "what"]
noncomputable def thingsD : List (PyData × Str) := [
  (st "r", Str.ofString "to"), (st "?x", Str.ofString "t"), (st "", Str.ofString "t"), (st "same", Str.ofString "to"),
  (tp [st "a"], Str.ofString "mu"), (tp [st "f", tp [st "a"], tp [st "b"]], Str.ofString "mu"), (tp [st "turn", tp [st "a"]], Str.ofString "mu"),
  (tp [st "?x"], Str.ofString "u"), (tp [], Str.ofString "pu"), (tp [tp [st "?x", tp [st "a"]]], Str.ofString "pu"),
  (tp [tp [st "?x", tp [st "a"]], tp [st "?y", tp [st "f", tp [st "b"]]]], Str.ofString "pu"),
  (tp [tp [st "?y", tp [st "a"]], tp [st "?x", tp [st "b"]]], Str.ofString "u"),
  (tp [tp [st "?x", tp [st "a"]], tp [st "?x", tp [st "a"]]], Str.ofString "u"),
  (tp [tp [st "x", tp [st "a"]]], Str.ofString "u"), (tp [tp [st "?x", tp [st "?y"]]], Str.ofString "u"),
  (tp [tp [st "?x", tp [st "a"], tp [st "b"]]], Str.ofString "u"), (tp [st "told", st "t"], Str.ofString "u"),
  (tp [st "f", tp []], Str.ofString "u"), (.int 5, Str.ofString ""), (tp [st "f", .int 7], Str.ofString "u"),
  (tp [st "f", tp [st "?x"]], Str.ofString "u"), (tp [tp [st "?x", tp [st "a"]], tp [st "?y", tp [st "?z"]]], Str.ofString "u")]
noncomputable def pairD (p : PyData × Str) : PyData := .tuple [p.1, .str p.2]
theorem rd_kinds (P : Params) : rdF 12 (Mine.hd.heap_39 P) (.ref 134) = some (.tuple (kindsS.map .str)) := by kernel_rfl
theorem rd_things (P : Params) : rdF 40 (Mine.hd.heap_39 P) (.ref 205) = some (.tuple (thingsD.map pairD)) := by kernel_rfl
section
variable {w : World} {A : Around} {E : Value → Shared → Prop} {s : Shared} {h₀ : Heap} {L : Addr} {m : Str → Option Value} {i : Int} {u : Tok} {value slice : PySem.Expr} {Q : Value → Shared → Prop}
theorem item_kinds (F : Fr h₀ L s.heap m) (X : (Mine.hd.heap_39 w.params).In h₀) (h0 : 0 ≤ i) (h1 : i < 7) (h : ∀ x t, x ∈ kindsS → Q (.str x t) s)
    (hs : ∀ a, subscripted slice false (.ref a) (.int i u) = operate [.ref a, .int i u] (getItem (.ref a) (.int i u))) :
    wpAny (model PG w) A (subscriptTail value slice (.ref 134) (.int i u)) Q E s := by
  have R := (rd_sound X _).1 _ _ (rd_kinds w.params)
  refine itemB (k := i.toNat) F R rfl (by omega) (by show _ < (kindsS.map PyData.str).length; rw [List.length_map]; show _ < 7; omega) (by omega) (fun v' r => ?_) hs
  have hlt : i.toNat < kindsS.length := by show _ < 7; omega
  have e : kid (.tuple (kindsS.map .str)) i.toNat = .str kindsS[i.toNat] := by
    unfold kid
    simp only [kids]
    rw [List.getD_eq_getElem?_getD, List.getElem?_map, List.getElem?_eq_getElem hlt]; rfl
  rw [e] at r
  obtain ⟨t, rfl⟩ := reads_strE r rfl
  exact h _ t (List.getElem_mem hlt)
theorem item_things (F : Fr h₀ L s.heap m) (X : (Mine.hd.heap_39 w.params).In h₀) (h0 : 0 ≤ i) (h1 : i < 22) (h : ∀ a p, p ∈ thingsD → Reads h₀ (.ref a) (pairD p) [] → Q (.ref a) s)
    (hs : ∀ a, subscripted slice false (.ref a) (.int i u) = operate [.ref a, .int i u] (getItem (.ref a) (.int i u))) :
    wpAny (model PG w) A (subscriptTail value slice (.ref 205) (.int i u)) Q E s := by
  have R := (rd_sound X _).1 _ _ (rd_things w.params)
  refine itemB (k := i.toNat) F R rfl (by omega) (by show _ < (thingsD.map pairD).length; rw [List.length_map]; show _ < 22; omega) (by omega) (fun v' r => ?_) hs
  have hlt : i.toNat < thingsD.length := by show _ < 22; omega
  have e : kid (.tuple (thingsD.map pairD)) i.toNat = pairD thingsD[i.toNat] := by
    unfold kid
    simp only [kids]
    rw [List.getD_eq_getElem?_getD, List.getElem?_map, List.getElem?_eq_getElem hlt]; rfl
  rw [e] at r
  obtain ⟨a, o, vs, n, rfl, _⟩ := reads_tup r
  exact h a _ (List.getElem_mem hlt) r
end
end Mine
namespace Mine
noncomputable def TK (h h' : Heap) : Prop := ∀ b o vs n, o.cls = .type "tuple" → o.data = .seq vs n → h.get? b = some o → h'.get? b = some o
theorem TK.trans {a b c : Heap} (x : TK a b) (y : TK b c) : TK a c := fun p o vs n hc hd e => y p o vs n hc hd (x p o vs n hc hd e)
theorem Keep.tk {a b : Heap} (x : Keep a b) : TK a b := fun p o _ _ _ _ e => x p o e
theorem tk_cls {h h' : Heap} {D : Addr} {o : Obj} (ho : h.get? D = some o) (hc : o.cls ≠ .type "tuple") (k : ∀ b ob, b ≠ D → h.get? b = some ob → h'.get? b = some ob) : TK h h' := fun b ob _ _ hb _ e => k b ob (by rintro rfl; rw [ho] at e; cases e; exact hc hb) e
theorem tk_dict {h h' : Heap} {D : Addr} {o : Obj} {es : Array DictEntry} {ep : Nat} (ho : h.get? D = some o) (hd : o.data = .dict es ep) (k : ∀ b ob, b ≠ D → h.get? b = some ob → h'.get? b = some ob) : TK h h' := fun b ob _ _ _ hb e => k b ob (by rintro rfl; rw [ho] at e; cases e; rw [hd] at hb; cases hb) e
theorem tk_ns {h h' : Heap} {D : Addr} {m : Str → Option Value} (n : h.Ns D m) (k : ∀ b ob, b ≠ D → h.get? b = some ob → h'.get? b = some ob) : TK h h' := by
  obtain ⟨o, es, ep, ho, hd, _⟩ := n
  exact tk_dict ho hd k
theorem tk_iter {h h' : Heap} {D l : Addr} {i : Nat} (n : h.IsListIter D l i) (k : ∀ b ob, b ≠ D → h.get? b = some ob → h'.get? b = some ob) : TK h h' := by
  obtain ⟨o, ho, hc, _⟩ := n
  exact tk_cls ho (by rw [hc]; decide) k
theorem reads_tk {h h' : Heap} (k : TK h h') : ∀ {v : Value} {d : PyData} {as : List Addr}, Reads h v d as → as = [] → Reads h' v d [] := by
  intro v d as r
  induction r using Reads.rec (motive_2 := fun vs ds as _ => as = [] → ReadsAll h' vs ds []) with
  | none => intro _; exact .none
  | bool b => intro _; exact .bool b
  | int i t => intro _; exact .int i t
  | str x t => intro _; exact .str x t
  | list => intro e; cases e
  | tuple h1 h2 h3 h4 ih => intro e; exact .tuple (k _ _ _ _ h2 h3 h1) h2 h3 (ih e)
  | dict => intro e; cases e
  | nil => exact .nil
  | cons h1 h2 ih1 ih2 =>
    rename_i e'
    obtain ⟨e1, e2⟩ := List.append_eq_nil_iff.mp e'
    exact ReadsAll.cons (ih1 e1) (ih2 e2)
theorem readsAll_tk {h h' : Heap} (k : TK h h') : ∀ {vs : List Value} {ds : List PyData}, ReadsAll h vs ds [] → ReadsAll h' vs ds [] := by
  intro vs
  induction vs with
  | nil => intro ds r; cases r; exact .nil
  | cons v vs ih =>
    intro ds r
    obtain ⟨d, es, rfl, r1, r2⟩ := readsAll_cons r
    exact ReadsAll.cons (reads_tk k r1 rfl) (ih r2)
theorem reads_tk' {h h' : Heap} (k : TK h h') {v : Value} {d : PyData} (r : Reads h v d []) : Reads h' v d [] := reads_tk k r rfl
theorem readsAll_item {h : Heap} : ∀ {vs : List Value} {ds : List PyData} (_ : ReadsAll h vs ds []) {i : Nat} {v : Value}, vs[i]? = some v → ∃ d, ds[i]? = some d ∧ Reads h v d [] := by
  intro vs
  induction vs with
  | nil => intro ds _ i v e; simp at e
  | cons u vs ih =>
    intro ds r i v e
    obtain ⟨d, es, rfl, r1, r2⟩ := readsAll_cons r
    cases i with
    | zero => simp at e; subst e; exact ⟨d, rfl, r1⟩
    | succ i => simp at e; obtain ⟨d', hd, r'⟩ := ih r2 e; exact ⟨d', by simpa using hd, r'⟩
section
variable {w : World} {A : Around} {E : Value → Shared → Prop} {R : Result → Shared → Prop} {env : Env}
theorem compTurn_two0 (elt t1 iter1 t2 iter2 : PySem.Expr) (scope : Scope) (pos : Pos) (it acc : Value) (env : Env) :
    compTurn (.ListComp elt [⟨t1, iter1, [], 0⟩, ⟨t2, iter2, [], 0⟩] scope pos) 0 it acc env = (standAt iter1.pos >>= fun _ => pyNext it >>= fun r => match r with
      | none => pure (.done .next)
      | some v => letOwnedTupleGo t1 it v >>= fun _ => assign t1 env v >>= fun _ =>
        (eval iter2 env >>= fun x => standAt iter2.pos >>= fun _ => foldedSetIterable iter2 env x >>= fun x => holding [x] (pyIter x) >>= fun it' => runOwn (.compStart (.ListComp elt [⟨t1, iter1, [], 0⟩, ⟨t2, iter2, [], 0⟩] scope pos) 1 it' acc env) env >>= fun _ => again (.compLoop (.ListComp elt [⟨t1, iter1, [], 0⟩, ⟨t2, iter2, [], 0⟩] scope pos) 0 it acc env))) := by rfl
theorem compTurn_two1 (elt t1 iter1 t2 iter2 : PySem.Expr) (scope : Scope) (pos : Pos) (it acc : Value) (env : Env) :
    compTurn (.ListComp elt [⟨t1, iter1, [], 0⟩, ⟨t2, iter2, [], 0⟩] scope pos) 1 it acc env = (standAt iter2.pos >>= fun _ => pyNext it >>= fun r => match r with
      | none => pure (.done .next)
      | some v => letOwnedTupleGo t2 it v >>= fun _ => assign t2 env v >>= fun _ =>
        (eval elt env >>= fun x => call (.builtin "list.append") [acc, x] >>= fun _ => pure ()) >>= fun _ =>
          again (.compLoop (.ListComp elt [⟨t1, iter1, [], 0⟩, ⟨t2, iter2, [], 0⟩] scope pos) 1 it acc env)) := by rfl
theorem compStart_two1 {elt t1 iter1 t2 iter2 scope pos it acc env} {s : Shared}
    (h0 : codeAny (model PG w) A (.compLoop (.ListComp elt [⟨t1, iter1, [], 0⟩, ⟨t2, iter2, [], 0⟩] scope pos) 1 it acc env) R s)
    (h : wpAny (model PG w) A (pyIter it) (fun it' s' => codeAny (model PG w) A (.compLoop (.ListComp elt [⟨t1, iter1, [], 0⟩, ⟨t2, iter2, [], 0⟩] scope pos) 1 it' acc env) R s')
      (notedBy (model PG w) A env fun x s' => R (.error x) s') s) :
    codeAny (model PG w) A (.compStart (.ListComp elt [⟨t1, iter1, [], 0⟩, ⟨t2, iter2, [], 0⟩] scope pos) 1 it acc env) R s := by
  refine codeAny_of_tree ?_
  show wpAny _ _ ((compStart (.ListComp elt [⟨t1, iter1, [], 0⟩, ⟨t2, iter2, [], 0⟩] scope pos) 1 it acc env).onRaise (fun x => do noteFrame x env; standAt theWindowsPlace)) _ _ s
  refine wpAny_notedAt ?_
  unfold compStart
  show wpAny _ _ (ask >>= _) _ _ s
  refine wpAny_bind (wpAny_askSetting (wpAny_ite ?_))
  split
  · first
      | exact wpAny_bind (wpAny_pure (wpAny_pure (And.intro rfl h0)))
      | exact wpAny_pure (And.intro rfl h0)
  · first
      | exact wpAny_bind (wpAny_rule (wpAny_bind (wpAny_standAt (wpAny_bind (wpAny_mono h (fun it' s' h' => wpAny_pure (And.intro rfl h')) fun _ _ x => x)))))
      | (refine wpAny_bind (wpAny_rule ?_); show wpAny _ _ (standAt iter2.pos >>= _) _ _ s; exact wpAny_bind (wpAny_standAt (wpAny_bind (wpAny_mono h (fun it' s' h' => wpAny_pure (And.intro rfl h')) fun _ _ x => x))))
theorem loop_two1 {elt t1 iter1 iter2 : PySem.Expr} {x2 : Str} {px2 : Pos} {scope : Scope} {pos : Pos} {it acc : Value} {env : Env} {s : Shared} (I : Nat → Shared → Prop)
    (turn : ∀ n s, I n s → wpAny (model PG w) A (pyNext it) (fun r s₁ => match r with
      | none => R (.ok .next) s₁
      | some v => wpAny (model PG w) A (assign (.Name x2 px2) env v) (fun _ s₂ =>
          wpAny (model PG w) A (eval elt env) (fun x s₄ =>
            wpAny (model PG w) A (call (.builtin "list.append") [acc, x]) (fun _ s₅ => ∃ m, m < n ∧ I m s₅) (fun _ _ => False) s₄) (fun _ _ => False) s₂)
          (fun _ _ => False) s₁) (fun _ _ => False) s)
    (n : Nat) (h : I n s) : codeAny (model PG w) A (.compLoop (.ListComp elt [⟨t1, iter1, [], 0⟩, ⟨.Name x2 px2, iter2, [], 0⟩] scope pos) 1 it acc env) R s := by
  refine codeAny_loop rfl I (fun n s hI => ?_) n h
  show wpAny _ A ((compTurn (.ListComp elt [⟨t1, iter1, [], 0⟩, ⟨.Name x2 px2, iter2, [], 0⟩] scope pos) 1 it acc env).onRaise (fun x => do noteFrame x env; theTreesLotGoes x)) _ _ s
  refine wpAny_noted ?_
  rw [compTurn_two1]
  refine wpAny_bind (wpAny_standAt (wpAny_bind (wpAny_mono (turn n s hI) (fun r s₁ h₁ => ?_) fun _ _ h' => h'.elim)))
  cases r with
  | none => exact wpAny_pure h₁
  | some v =>
    refine wpAny_bind (wpAny_of_eq (show letOwnedTupleGo (.Name x2 px2) it v = pure () from rfl) ?_)
    refine wpAny_bind (wpAny_mono h₁ (fun _ s₂ h₂ => ?_) fun _ _ h' => h'.elim)
    exact wpAny_bind (wpAny_bind (wpAny_mono h₂ (fun x s₄ h₄ => wpAny_bind (wpAny_mono h₄ (fun _ s₅ h₅ => wpAny_pure (wpAny_pure ⟨rfl, h₅⟩)) fun _ _ h' => h'.elim)) fun _ _ h' => h'.elim))
theorem loop_two0 {elt iter1 t2 iter2 : PySem.Expr} {x1 : Str} {px1 : Pos} {scope : Scope} {pos : Pos} {it acc : Value} {env : Env} {s : Shared} (I : Nat → Shared → Prop) (hs2 : ∀ x, foldedSetIterable iter2 env x = pure x)
    (turn : ∀ n s, I n s → wpAny (model PG w) A (pyNext it) (fun r s₁ => match r with
      | none => R (.ok .next) s₁
      | some v => wpAny (model PG w) A (assign (.Name x1 px1) env v) (fun _ s₂ =>
          wpAny (model PG w) A (eval iter2 env) (fun xv s₃ => wpAny (model PG w) A (pyIter xv) (fun it' s₄ =>
            codeAny (model PG w) (A.mark none) (.compStart (.ListComp elt [⟨.Name x1 px1, iter1, [], 0⟩, ⟨t2, iter2, [], 0⟩] scope pos) 1 it' acc env) (fun r s₅ => (∃ f, r = .ok f) ∧ ∃ m, m < n ∧ I m s₅) s₄) (fun _ _ => False) s₃) (fun _ _ => False) s₂)
          (fun _ _ => False) s₁) (fun _ _ => False) s)
    (n : Nat) (h : I n s) : codeAny (model PG w) A (.compLoop (.ListComp elt [⟨.Name x1 px1, iter1, [], 0⟩, ⟨t2, iter2, [], 0⟩] scope pos) 0 it acc env) R s := by
  refine codeAny_loop rfl I (fun n s hI => ?_) n h
  show wpAny _ A ((compTurn (.ListComp elt [⟨.Name x1 px1, iter1, [], 0⟩, ⟨t2, iter2, [], 0⟩] scope pos) 0 it acc env).onRaise (fun x => do noteFrame x env; theTreesLotGoes x)) _ _ s
  refine wpAny_noted ?_
  rw [compTurn_two0]
  refine wpAny_bind (wpAny_standAt (wpAny_bind (wpAny_mono (turn n s hI) (fun r s₁ h₁ => ?_) fun _ _ h' => h'.elim)))
  cases r with
  | none => exact wpAny_pure h₁
  | some v =>
    refine wpAny_bind (wpAny_of_eq (show letOwnedTupleGo (.Name x1 px1) it v = pure () from rfl) ?_)
    refine wpAny_bind (wpAny_mono h₁ (fun _ s₂ h₂ => ?_) fun _ _ h' => h'.elim)
    refine wpAny_bind (wpAny_mono h₂ (fun xv s₃ h₃ => ?_) fun _ _ h' => h'.elim)
    refine wpAny_bind (wpAny_standAt (wpAny_bind (wpAny_of_eq (hs2 _) (wpAny_bind (wpAny_holding (wpAny_mono h₃ (fun it' s₄ h₄ => ?_) fun _ _ h' => h'.elim))))))
    refine wpAny_bind (wpAny_runOwn (codeAny_mono h₄ fun r s₅ h₅ => ?_))
    obtain ⟨⟨f, rfl⟩, h₅⟩ := h₅
    exact wpAny_pure ⟨rfl, h₅⟩
end
end Mine
namespace Mine
section
variable {w : World} {A : Around} {E : Value → Shared → Prop} {s : Shared} {g : Heap} {L : Addr} {m : Str → Option Value} {env : Env} {news : List (Addr × Obj)}
structure CompSt (h₀ h : Heap) (I1 Ee D C : Addr) (i : Nat) (ys : List Value) (m₃ : Str → Option Value) (ds : List PyData) : Prop where
  keep : Keep h₀ h
  it : h.IsListIter I1 Ee i
  acc : ∃ k, h.get? D = some (listOf ys.toArray k)
  ns : h.Ns C m₃
  rd : ReadsAll h ys ds []
structure Apart (h₀ : Heap) (I1 D C : Addr) : Prop where
  nI : h₀.get? I1 = none
  nD : h₀.get? D = none
  nC : h₀.get? C = none
  ID : I1 ≠ D
  IC : I1 ≠ C
  DC : D ≠ C
theorem listOf_ne (ys : Array Value) (k : Nat) : (listOf ys k).cls ≠ .type "tuple" := by show Value.type "list" ≠ _; decide
theorem keep_new {h₀ h h' : Heap} {X : Addr} (k : Keep h₀ h) (n : h₀.get? X = none) (kk : ∀ b ob, b ≠ X → h.get? b = some ob → h'.get? b = some ob) : Keep h₀ h' := fun b o e => kk b o (by rintro rfl; rw [n] at e; cases e) (k b o e)
theorem iter_at {h h' : Heap} {I l : Addr} {i : Nat} (x : h.IsListIter I l i) (k : ∀ o, h.get? I = some o → h'.get? I = some o) : h'.IsListIter I l i := let ⟨o, ho, r⟩ := x; ⟨o, k o ho, r⟩
theorem ns_at {h h' : Heap} {C : Addr} {m : Str → Option Value} (x : h.Ns C m) (k : ∀ o, h.get? C = some o → h'.get? C = some o) : h'.Ns C m := let ⟨o, es, ep, ho, r⟩ := x; ⟨o, es, ep, k o ho, r⟩
theorem CompSt.names {h₀ h h' : Heap} {I1 Ee D C : Addr} {i : Nat} {ys : List Value} {m₃ m₄ : Str → Option Value} {ds : List PyData} (x : CompSt h₀ h I1 Ee D C i ys m₃ ds) (a : Apart h₀ I1 D C) (n : h'.Ns C m₄) (s : Heap.SameBut C h h') : CompSt h₀ h' I1 Ee D C i ys m₄ ds := by
  have kk : ∀ b ob, b ≠ C → h.get? b = some ob → h'.get? b = some ob := fun b ob hb e => (s.2 b hb).trans e
  obtain ⟨k, ho⟩ := x.acc
  exact ⟨keep_new x.keep a.nC kk, iter_at x.it fun o e => kk _ o a.IC e, ⟨k, kk _ _ a.DC ho⟩, n, readsAll_tk (tk_ns x.ns kk) x.rd⟩
theorem CompSt.grow {h₀ h h' : Heap} {I1 Ee D C : Addr} {i : Nat} {ys : List Value} {m₃ : Str → Option Value} {ds : List PyData} (x : CompSt h₀ h I1 Ee D C i ys m₃ ds) (k : Keep h h') : CompSt h₀ h' I1 Ee D C i ys m₃ ds := by
  obtain ⟨kk, ho⟩ := x.acc
  exact ⟨Keep.trans x.keep k, iter_at x.it fun o e => k _ o e, ⟨kk, k _ _ ho⟩, ns_at x.ns fun o e => k _ o e, readsAll_tk (Keep.tk k) x.rd⟩
theorem CompSt.other {h₀ h h' : Heap} {I1 Ee D C X l : Addr} {i j : Nat} {ys : List Value} {m₃ : Str → Option Value} {ds : List PyData} (x : CompSt h₀ h I1 Ee D C i ys m₃ ds) (nX : h₀.get? X = none) (hI : I1 ≠ X) (hD : D ≠ X) (hC : C ≠ X) (xi : h.IsListIter X l j) (kk : ∀ b ob, b ≠ X → h.get? b = some ob → h'.get? b = some ob) : CompSt h₀ h' I1 Ee D C i ys m₃ ds := by
  obtain ⟨k, ho⟩ := x.acc
  exact ⟨keep_new x.keep nX kk, iter_at x.it fun o e => kk _ o hI e, ⟨k, kk _ _ hD ho⟩, ns_at x.ns fun o e => kk _ o hC e, readsAll_tk (tk_iter xi kk) x.rd⟩
theorem readsAll_snoc {h : Heap} {vs : List Value} {ds : List PyData} {v : Value} {d : PyData} (r : ReadsAll h vs ds []) (q : Reads h v d []) : ReadsAll h (vs ++ [v]) (ds ++ [d]) [] := readsAll_app r (ReadsAll.cons (as := []) q .nil)
theorem take_snoc {α : Type} {l : List α} {i : Nat} {a : α} (e : l[i]? = some a) : l.take (i + 1) = l.take i ++ [a] := by
  rw [List.take_add_one, e]; rfl
end
namespace comp2A_n
noncomputable def Wk (w : World) (A : Around) (E : Value → Shared → Prop) (s : Shared) (g : Heap) (m : Str → Option Value) (env : Env) (news : List (Addr × Obj)) (elt : PySem.Expr) (iter1 : PySem.Expr) (iter2 : PySem.Expr) (x1 : Str) (x2 : Str) (y : Str) (px1 : Pos) (px2 : Pos) (py : Pos) (scope : Scope) (cl : List (Str × Addr)) (pos : Pos) (spos : Pos) (Q : Flow → Shared → Prop) (Ee : Addr) (Tt : Addr) (kE : Nat) (kT : Nat) (vsE : List Value) (vsT : List Value) (dsE : List PyData) (dsT : List PyData) : Prop := ∀ (L : Addr) (f : PyData → PyData → PyData) (hh : A.handled = none) (hsw : swapsWith (.ListComp elt [⟨.Name x1 px1, iter1, [], 0⟩, ⟨.Name x2 px2, iter2, [], 0⟩] scope pos) (some (.Name y py)) spos.line env = pure true) (hclos : closureFor scope env = pure cl) (hcell : ∀ z ∈ scope.names, z.2 ≠ .cell) (hkind : scope.kind = .function) (hnames : ∀ z ∈ scope.names, z.2 = .local → scope.names.lookup z.1 = some .local) (hx1 : scope.names.lookup x1 = some .local) (hx2 : scope.names.lookup x2 = some .local) (hne : x1 ≠ x2) (hs1 : ∀ x, foldedSetIterable iter1 env x = pure x) (hs2 : ∀ C x, foldedSetIterable iter2 (compEnvC scope cl C env) x = pure x) (hy : env.kindOf y = some .local) (hp : (env.scope.kind == .class || (env.scope.kind == .module && env.locals != env.globals)) = false) (hL : env.locals = L) (F : Fr g L s.heap m) (N : News g L s.heap news) (hE : s.heap.get? Ee = some (listOf vsE.toArray kE)) (hT : s.heap.get? Tt = some (listOf vsT.toArray kT)) (RE : ReadsAll s.heap vsE dsE []) (RT : ReadsAll s.heap vsT dsT []) (hz : vsE.length * vsT.length ≤ 100000) (h1 : wpAny (model PG w) A (eval iter1 env) (fun xv s₁ => xv = .ref Ee ∧ s₁ = s) E s) (h2 : ∀ C h tk, Keep s.heap h → wpAny (model PG w) A (eval iter2 (compEnvC scope cl C env)) (fun xv s₁ => xv = .ref Tt ∧ s₁ = { s with heap := h, toks := tk }) (fun _ _ => False) { s with heap := h, toks := tk }) (helt : ∀ C h tk m₃ a b da db, da ∈ dsE → db ∈ dsT → Reads s.heap a da [] → Reads s.heap b db [] → Keep s.heap h → h.Ns C m₃ → m₃ x1 = some a → m₃ x2 = some b →
      wpAny (model PG w) A (eval elt (compEnvC scope cl C env)) (fun y s₄ => ∃ h' tk', s₄ = { s with heap := h', toks := tk' } ∧ Keep h h' ∧ Reads h' y (f da db) []) (fun _ _ => False) { s with heap := h, toks := tk }) (done : ∀ D h' tk ys k, (∀ b o, b ≠ L → s.heap.get? b = some o → h'.get? b = some o) → s.heap.get? D = none → Fr g L h' (fun z => if z = y then some (.ref D) else m z) → News g L h' ((D, listOf ys.toArray k) :: news) → ReadsAll h' ys (dsE.flatMap fun a => dsT.map fun b => f a b) [] → Q .next { s with heap := h', toks := tk }), wpAny (model PG w) A (exec (.Assign [.Name y py] (.ListComp elt [⟨.Name x1 px1, iter1, [], 0⟩, ⟨.Name x2 px2, iter2, [], 0⟩] scope pos) spos) env) Q E s
theorem inhab : Nonempty ((World) × (Around) × (Value → Shared → Prop) × (Shared) × (Heap) × (Str → Option Value) × (Env) × (List (Addr × Obj)) × (PySem.Expr) × (PySem.Expr) × (PySem.Expr) × (Str) × (Str) × (Str) × (Pos) × (Pos) × (Pos) × (Scope) × (List (Str × Addr)) × (Pos) × (Pos) × (Flow → Shared → Prop) × (Addr) × (Addr) × (Nat) × (Nat) × (List Value) × (List Value) × (List PyData) × (List PyData)) := ⟨((aWorld 1), ({}), (fun _ _ => True), ({}), ({}), (fun _ => none), (envAt 85 0), (default), (default), (default), (default), (Str.ofString "a"), (Str.ofString "a"), (Str.ofString "a"), (default), (default), (default), (default), (default), (default), (default), (fun _ _ => True), (0), (0), (0), (0), (default), (default), (default), (default))⟩
noncomputable def cc : (World) × (Around) × (Value → Shared → Prop) × (Shared) × (Heap) × (Str → Option Value) × (Env) × (List (Addr × Obj)) × (PySem.Expr) × (PySem.Expr) × (PySem.Expr) × (Str) × (Str) × (Str) × (Pos) × (Pos) × (Pos) × (Scope) × (List (Str × Addr)) × (Pos) × (Pos) × (Flow → Shared → Prop) × (Addr) × (Addr) × (Nat) × (Nat) × (List Value) × (List Value) × (List PyData) × (List PyData) := pickA inhab fun c => Wk c.1 c.2.1 c.2.2.1 c.2.2.2.1 c.2.2.2.2.1 c.2.2.2.2.2.1 c.2.2.2.2.2.2.1 c.2.2.2.2.2.2.2.1 c.2.2.2.2.2.2.2.2.1 c.2.2.2.2.2.2.2.2.2.1 c.2.2.2.2.2.2.2.2.2.2.1 c.2.2.2.2.2.2.2.2.2.2.2.1 c.2.2.2.2.2.2.2.2.2.2.2.2.1 c.2.2.2.2.2.2.2.2.2.2.2.2.2.1 c.2.2.2.2.2.2.2.2.2.2.2.2.2.2.1 c.2.2.2.2.2.2.2.2.2.2.2.2.2.2.2.1 c.2.2.2.2.2.2.2.2.2.2.2.2.2.2.2.2.1 c.2.2.2.2.2.2.2.2.2.2.2.2.2.2.2.2.2.1 c.2.2.2.2.2.2.2.2.2.2.2.2.2.2.2.2.2.2.1 c.2.2.2.2.2.2.2.2.2.2.2.2.2.2.2.2.2.2.2.1 c.2.2.2.2.2.2.2.2.2.2.2.2.2.2.2.2.2.2.2.2.1 c.2.2.2.2.2.2.2.2.2.2.2.2.2.2.2.2.2.2.2.2.2.1 c.2.2.2.2.2.2.2.2.2.2.2.2.2.2.2.2.2.2.2.2.2.2.1 c.2.2.2.2.2.2.2.2.2.2.2.2.2.2.2.2.2.2.2.2.2.2.2.1 c.2.2.2.2.2.2.2.2.2.2.2.2.2.2.2.2.2.2.2.2.2.2.2.2.1 c.2.2.2.2.2.2.2.2.2.2.2.2.2.2.2.2.2.2.2.2.2.2.2.2.2.1 c.2.2.2.2.2.2.2.2.2.2.2.2.2.2.2.2.2.2.2.2.2.2.2.2.2.2.1 c.2.2.2.2.2.2.2.2.2.2.2.2.2.2.2.2.2.2.2.2.2.2.2.2.2.2.2.1 c.2.2.2.2.2.2.2.2.2.2.2.2.2.2.2.2.2.2.2.2.2.2.2.2.2.2.2.2.1 c.2.2.2.2.2.2.2.2.2.2.2.2.2.2.2.2.2.2.2.2.2.2.2.2.2.2.2.2.2
@[irreducible] noncomputable def w : World := cc.1
@[irreducible] noncomputable def A : Around := cc.2.1
@[irreducible] noncomputable def E : Value → Shared → Prop := cc.2.2.1
@[irreducible] noncomputable def s : Shared := cc.2.2.2.1
@[irreducible] noncomputable def g : Heap := cc.2.2.2.2.1
@[irreducible] noncomputable def m : Str → Option Value := cc.2.2.2.2.2.1
@[irreducible] noncomputable def env : Env := cc.2.2.2.2.2.2.1
@[irreducible] noncomputable def news : List (Addr × Obj) := cc.2.2.2.2.2.2.2.1
@[irreducible] noncomputable def elt : PySem.Expr := cc.2.2.2.2.2.2.2.2.1
@[irreducible] noncomputable def iter1 : PySem.Expr := cc.2.2.2.2.2.2.2.2.2.1
@[irreducible] noncomputable def iter2 : PySem.Expr := cc.2.2.2.2.2.2.2.2.2.2.1
@[irreducible] noncomputable def x1 : Str := cc.2.2.2.2.2.2.2.2.2.2.2.1
@[irreducible] noncomputable def x2 : Str := cc.2.2.2.2.2.2.2.2.2.2.2.2.1
@[irreducible] noncomputable def y : Str := cc.2.2.2.2.2.2.2.2.2.2.2.2.2.1
@[irreducible] noncomputable def px1 : Pos := cc.2.2.2.2.2.2.2.2.2.2.2.2.2.2.1
@[irreducible] noncomputable def px2 : Pos := cc.2.2.2.2.2.2.2.2.2.2.2.2.2.2.2.1
@[irreducible] noncomputable def py : Pos := cc.2.2.2.2.2.2.2.2.2.2.2.2.2.2.2.2.1
@[irreducible] noncomputable def scope : Scope := cc.2.2.2.2.2.2.2.2.2.2.2.2.2.2.2.2.2.1
@[irreducible] noncomputable def cl : List (Str × Addr) := cc.2.2.2.2.2.2.2.2.2.2.2.2.2.2.2.2.2.2.1
@[irreducible] noncomputable def pos : Pos := cc.2.2.2.2.2.2.2.2.2.2.2.2.2.2.2.2.2.2.2.1
@[irreducible] noncomputable def spos : Pos := cc.2.2.2.2.2.2.2.2.2.2.2.2.2.2.2.2.2.2.2.2.1
@[irreducible] noncomputable def Q : Flow → Shared → Prop := cc.2.2.2.2.2.2.2.2.2.2.2.2.2.2.2.2.2.2.2.2.2.1
@[irreducible] noncomputable def Ee : Addr := cc.2.2.2.2.2.2.2.2.2.2.2.2.2.2.2.2.2.2.2.2.2.2.1
@[irreducible] noncomputable def Tt : Addr := cc.2.2.2.2.2.2.2.2.2.2.2.2.2.2.2.2.2.2.2.2.2.2.2.1
@[irreducible] noncomputable def kE : Nat := cc.2.2.2.2.2.2.2.2.2.2.2.2.2.2.2.2.2.2.2.2.2.2.2.2.1
@[irreducible] noncomputable def kT : Nat := cc.2.2.2.2.2.2.2.2.2.2.2.2.2.2.2.2.2.2.2.2.2.2.2.2.2.1
@[irreducible] noncomputable def vsE : List Value := cc.2.2.2.2.2.2.2.2.2.2.2.2.2.2.2.2.2.2.2.2.2.2.2.2.2.2.1
@[irreducible] noncomputable def vsT : List Value := cc.2.2.2.2.2.2.2.2.2.2.2.2.2.2.2.2.2.2.2.2.2.2.2.2.2.2.2.1
@[irreducible] noncomputable def dsE : List PyData := cc.2.2.2.2.2.2.2.2.2.2.2.2.2.2.2.2.2.2.2.2.2.2.2.2.2.2.2.2.1
@[irreducible] noncomputable def dsT : List PyData := cc.2.2.2.2.2.2.2.2.2.2.2.2.2.2.2.2.2.2.2.2.2.2.2.2.2.2.2.2.2
theorem here : Wk w A E s g m env news elt iter1 iter2 x1 x2 y px1 px2 py scope cl pos spos Q Ee Tt kE kT vsE vsT dsE dsT := by
  unfold Wk
  intro L f hh hsw hclos hcell hkind hnames hx1 hx2 hne hs1 hs2 hy hp hL F N hE hT RE RT hz h1 h2 helt done
  rw [exec_Assign_Name_used _ _ _ _ hsw]
  refine wpAny_bind (wpAny_standAt (wpAny_bind ?_))
  show wpAny _ A (do let _ ← comprehension (.ListComp elt [⟨.Name x1 px1, iter1, [], 0⟩, ⟨.Name x2 px2, iter2, [], 0⟩] scope pos) scope env _ (newList []) false (eval iter1 env) (some (assign (.Name y py) env))) _ _ s
  refine wpAny_bind (wpAny_mono (wpAny_comprehension_free (use := some (assign (.Name y py) env)) (Q := fun _ s' => Q .next s') rfl hs1 hclos hkind hnames
    (wpAny_mono h1 (fun xv s₁ h₁ => ?_) fun _ _ e => e)) (fun _ s' hq => wpAny_pure (wpAny_pure hq)) fun _ _ e => e)
  obtain ⟨rfl, rfl⟩ := h₁
  have hlE := readsAll_len RE
  have hlT := readsAll_len RT
  refine wpAny_pyIter_list ⟨_, hE, rfl, kE, rfl⟩ ?_
  refine wpAny_newObj_type (wpAny_newFunctionEnv hcell (by intro y hy; simp at hy) (fun h₁ hns₁ hsb₁ => ?_) hkind)
  dsimp only at hns₁ hsb₁ ⊢
  generalize hH1 : s.heap.push { cls := .type "list_iterator", data := .fields #[.ref Ee, .int 0 0] } = H1 at hns₁ hsb₁ ⊢
  generalize hH2 : H1.push { cls := .type "list", dict := none, data := .seq ([] : List Value).toArray } = H2 at hns₁ hsb₁ ⊢
  have z1 : H1.objs.size = s.heap.objs.size + 1 := by rw [← hH1, Heap.size_push]
  have z2 : H2.objs.size = s.heap.objs.size + 2 := by rw [← hH2, Heap.size_push, z1]
  have ap : Apart s.heap s.heap.objs.size H1.objs.size H2.objs.size := by
    refine ⟨none_size _, Heap.get?_none_of_le (by omega), Heap.get?_none_of_le (by omega), ?_, ?_, ?_⟩
    · rw [z1]; exact Nat.ne_of_lt (by omega)
    · rw [z2]; exact Nat.ne_of_lt (by omega)
    · rw [z1, z2]; exact Nat.ne_of_lt (by omega)
  have up1 : ∀ b o, H1.get? b = some o → H2.get? b = some o := fun b o e => hH2 ▸ Heap.get?_push_of_some _ e
  have up0 : ∀ b o, s.heap.get? b = some o → H1.get? b = some o := fun b o e => hH1 ▸ Heap.get?_push_of_some _ e
  have low : ∀ b o, H2.get? b = some o → h₁.get? b = some o := fun b o e => hsb₁.extBut b o (Nat.ne_of_lt (Heap.lt_size e)) (Heap.get?_push_of_some _ e)
  have hIt : H1.get? s.heap.objs.size = some { cls := .type "list_iterator", data := .fields #[.ref Ee, .int 0 0] } := by rw [← hH1]; exact Heap.get?_push_size _ rfl
  have hAc : H2.get? H1.objs.size = some (listOf #[] 0) := by rw [← hH2]; exact Heap.get?_push_size _ rfl
  have st0 : ∃ m₃, CompSt s.heap h₁ s.heap.objs.size Ee H1.objs.size H2.objs.size 0 [] m₃ [] :=
    ⟨_, ⟨fun b o e => low b o (up1 b o (up0 b o e)), ⟨_, low _ _ (up1 _ _ hIt), rfl, rfl⟩, ⟨0, low _ _ hAc⟩, hns₁, .nil⟩⟩
  generalize hI1 : s.heap.objs.size = I1 at *
  generalize hD : H1.objs.size = D at *
  generalize hC : H2.objs.size = C at *
  have loop : ∀ s₃ : Shared, s₃ = { s with heap := h₁, toks := s.toks + ([] : List (Str × Value)).length } →
      codeAny (model PG w) A (.compLoop (.ListComp elt [⟨.Name x1 px1, iter1, [], 0⟩, ⟨.Name x2 px2, iter2, [], 0⟩] scope pos) 0 (.ref I1) (.ref D) (compEnvC scope cl C env))
        (compPost (model PG w) A E (some (assign (.Name y py) env)) (fun _ s' => Q .next s') (.ref D) C) s₃ := by
    rintro s₃ rfl
    refine loop_two0 (fun n s' => ∃ h tk i ys m₃, s' = { s with heap := h, toks := tk } ∧ n = vsE.length - i ∧ i ≤ vsE.length ∧ ys.length = i * vsT.length ∧ CompSt s.heap h I1 Ee D C i ys m₃ ((dsE.take i).flatMap fun a => dsT.map fun b => f a b)) (hs2 C) ?_ (vsE.length - 0)
      (let ⟨m₃, q⟩ := st0; ⟨_, _, 0, [], m₃, rfl, rfl, Nat.zero_le _, by simp, by simpa using q⟩)
    rintro n s' ⟨h, tk, i, ys, m₃, rfl, rfl, hi, hln, st⟩
    have hE' : h.get? Ee = some (listOf vsE.toArray kE) := st.keep _ _ hE
    rcases Nat.lt_or_ge i vsE.length with hlt | hge
    · have hv : vsE[i]? = some vsE[i] := List.getElem?_eq_getElem hlt
      obtain ⟨d, hd, rv⟩ := readsAll_item RE hv
      refine wpAny_pyNext_list_item (l := Ee) (i := i) (items := vsE.toArray) (x := vsE[i]) st.it ⟨_, hE', rfl, kE, rfl⟩ (by simp [hlt]) fun h2' it2 sb2 => ?_
      have kk2 : ∀ b ob, b ≠ I1 → h.get? b = some ob → h2'.get? b = some ob := fun b ob hb e => (sb2.2 b hb).trans e
      have st2 : CompSt s.heap h2' I1 Ee D C (i + 1) ys m₃ ((dsE.take i).flatMap fun a => dsT.map fun b => f a b) := by
        obtain ⟨k, ho⟩ := st.acc
        exact ⟨keep_new st.keep ap.nI kk2, it2, ⟨k, kk2 _ _ (Ne.symm ap.ID) ho⟩, ns_at st.ns fun o e => kk2 _ o (Ne.symm ap.IC) e, readsAll_tk (tk_iter st.it kk2) st.rd⟩
      refine wpAny_assign_Name (wpAny_storeName_local (lookup_relabel_local hx1) st2.ns (fun h3 hn3 hs3 => ?_) (by simp [compEnvC, relabel, hkind]))
      have st3 := st2.names ap hn3 hs3
      refine wpAny_mono (h2 C h3 _ st3.keep) (fun xv s₃ hq => ?_) (fun _ _ x => x)
      obtain ⟨rfl, rfl⟩ := hq
      have hT3 : h3.get? Tt = some (listOf vsT.toArray kT) := st3.keep _ _ hT
      refine wpAny_pyIter_list ⟨_, hT3, rfl, kT, rfl⟩ ?_
      rw [Around.mark_none]
      dsimp only
      generalize hI2 : h3.objs.size = I2
      have hIt2 : (h3.push { cls := .type "list_iterator", data := .fields #[.ref Tt, .int 0 0] }).get? I2 = some { cls := .type "list_iterator", data := .fields #[.ref Tt, .int 0 0] } := by rw [← hI2]; exact Heap.get?_push_size _ rfl
      have kp : Keep h3 (h3.push { cls := .type "list_iterator", data := .fields #[.ref Tt, .int 0 0] }) := fun b o e => Heap.get?_push_of_some _ e
      have st4 := st3.grow kp
      have nI2 : s.heap.get? I2 = none := by
        cases q : s.heap.get? I2 with
        | none => rfl
        | some o => have := st3.keep _ _ q; rw [← hI2, none_size] at this; cases this
      have n1 : I1 ≠ I2 := by rintro rfl; obtain ⟨o, ho, _⟩ := st3.it; rw [← hI2, none_size] at ho; cases ho
      have n2 : D ≠ I2 := by rintro rfl; obtain ⟨k, ho⟩ := st3.acc; rw [← hI2, none_size] at ho; cases ho
      have n3 : C ≠ I2 := by rintro rfl; obtain ⟨o, _, _, ho, _⟩ := st3.ns; rw [← hI2, none_size] at ho; cases ho
      generalize hH4 : h3.push { cls := .type "list_iterator", data := .fields #[.ref Tt, .int 0 0] } = H4 at *
      have loop1 : ∀ (tk4 : Nat) (s₄ : Shared), s₄ = { s with heap := H4, toks := tk4 } → codeAny (model PG w) A (.compLoop (.ListComp elt [⟨.Name x1 px1, iter1, [], 0⟩, ⟨.Name x2 px2, iter2, [], 0⟩] scope pos) 1 (.ref I2) (.ref D) (compEnvC scope cl C env))
          (fun r s₅ => (∃ f, r = .ok f) ∧ ∃ m, m < vsE.length - i ∧ ∃ h tk i ys m₃, s₅ = { s with heap := h, toks := tk } ∧ m = vsE.length - i ∧ i ≤ vsE.length ∧ ys.length = i * vsT.length ∧ CompSt s.heap h I1 Ee D C i ys m₃ ((dsE.take i).flatMap fun a => dsT.map fun b => f a b)) s₄ := by
        rintro tk4 s₄ rfl
        refine loop_two1 (fun n s' => ∃ h tk j ys m₅, s' = { s with heap := h, toks := tk } ∧ n = vsT.length - j ∧ j ≤ vsT.length ∧ ys.length = i * vsT.length + j ∧ CompSt s.heap h I1 Ee D C (i + 1) ys m₅ (((dsE.take i).flatMap fun a => dsT.map fun b => f a b) ++ (dsT.take j).map fun b => f d b) ∧ h.IsListIter I2 Tt j ∧ m₅ x1 = some vsE[i]) ?_ (vsT.length - 0)
          ⟨_, _, 0, ys, _, rfl, rfl, Nat.zero_le _, by simpa using hln, by simpa using st4, ⟨_, hIt2, rfl, rfl⟩, by simp⟩
        · rintro n s' ⟨h, tk, j, ys, m₅, rfl, rfl, hj, hz5, st5, it5, hm5⟩
          have hT5 : h.get? Tt = some (listOf vsT.toArray kT) := st5.keep _ _ hT
          have hm9 : (i + 1) * vsT.length ≤ vsE.length * vsT.length := Nat.mul_le_mul_right _ hlt
          rw [Nat.succ_mul] at hm9
          rcases Nat.lt_or_ge j vsT.length with hlt2 | hge2
          · have hb : vsT[j]? = some vsT[j] := List.getElem?_eq_getElem hlt2
            obtain ⟨db, hdb, rb⟩ := readsAll_item RT hb
            refine wpAny_pyNext_list_item (l := Tt) (i := j) (items := vsT.toArray) (x := vsT[j]) it5 ⟨_, hT5, rfl, kT, rfl⟩ (by simp [hlt2]) fun h6 it6 sb6 => ?_
            have kk6 : ∀ b ob, b ≠ I2 → h.get? b = some ob → h6.get? b = some ob := fun b ob hb e => (sb6.2 b hb).trans e
            have st6 := st5.other nI2 n1 n2 n3 it5 kk6
            refine wpAny_assign_Name (wpAny_storeName_local (lookup_relabel_local hx2) st6.ns (fun h7 hn7 hs7 => ?_) (by simp [compEnvC, relabel, hkind]))
            have st7 := st6.names ap hn7 hs7
            have it7 : h7.IsListIter I2 Tt (j + 1) := iter_at it6 fun o e => (hs7.2 _ (Ne.symm n3)).trans e
            refine wpAny_mono (helt C h7 _ _ vsE[i] vsT[j] d db (List.mem_of_getElem? hd) (List.mem_of_getElem? hdb) rv rb st7.keep st7.ns (by simp [hne, hm5]) (by simp)) (fun yv s₇ hq => ?_) (fun _ _ x => x)
            obtain ⟨h8, tk8, rfl, k8, ry⟩ := hq
            have st8 := st7.grow k8
            obtain ⟨k, hac⟩ := st8.acc
            refine wpAny_list_append_plain (items := ys.toArray) ⟨k, hac⟩ (fun h9 hl9 sb9 => ?_) (by rw [List.size_toArray, sizeLine_eq]; omega)
            have kk9 : ∀ b ob, b ≠ D → h8.get? b = some ob → h9.get? b = some ob := fun b ob hb e => (sb9.2 b hb).trans e
            have tk9 : TK h8 h9 := tk_cls hac (listOf_ne _ _) kk9
            obtain ⟨k9, hac9⟩ := hl9
            refine ⟨vsT.length - (j + 1), by omega, h9, _, j + 1, ys ++ [yv], (fun z => if z = x2 then some vsT[j] else m₅ z), rfl, rfl, by omega, by rw [List.length_append, hz5, List.length_singleton]; omega, ?_, iter_at it7 fun o e => kk9 _ o (Ne.symm n2) (k8 _ _ e), by simp [hne, hm5]⟩
            · refine ⟨keep_new st8.keep ap.nD kk9, iter_at st8.it fun o e => kk9 _ o ap.ID e, ⟨k9, by simpa using hac9⟩, ns_at st8.ns fun o e => kk9 _ o (Ne.symm ap.DC) e, ?_⟩
              rw [take_snoc hdb, List.map_append, ← List.append_assoc]
              exact readsAll_snoc (readsAll_tk tk9 st8.rd) (reads_tk' tk9 ry)
          · refine wpAny_pyNext_list_end (l := Tt) (i := j) (items := vsT.toArray) hh it5 ⟨_, hT5, rfl, kT, rfl⟩ (by simp [hge2]) fun h6 sb6 => ?_
            have st6 := st5.other nI2 n1 n2 n3 it5 fun b ob hb e => sb6 b ob hb e
            refine ⟨⟨_, rfl⟩, vsE.length - (i + 1), by omega, h6, _, i + 1, ys, m₅, rfl, rfl, by omega, by rw [Nat.succ_mul]; omega, ?_⟩
            have e1 : dsT.take j = dsT := List.take_of_length_le (by omega)
            rw [take_snoc hd, List.flatMap_append]
            rw [e1] at st6
            simpa using st6
      exact compStart_two1 (loop1 _ _ rfl) (wpAny_pyIter_listiter ⟨_, hIt2, rfl, rfl⟩ (loop1 _ _ rfl))
    · refine wpAny_pyNext_list_end (l := Ee) (i := i) (items := vsE.toArray) hh st.it ⟨_, hE', rfl, kE, rfl⟩ (by simp [hge]) fun h2' sb2 => ?_
      have kk2 : ∀ b ob, b ≠ I1 → h.get? b = some ob → h2'.get? b = some ob := fun b ob hb e => sb2 b ob hb e
      have e0 : dsE.take i = dsE := List.take_of_length_le (by omega)
      rw [e0] at st
      obtain ⟨k, ho⟩ := st.acc
      have hacc := kk2 _ _ (Ne.symm ap.ID) ho
      have hns := ns_at st.ns fun o e => kk2 _ o (Ne.symm ap.IC) e
      have hkeep := keep_new st.keep ap.nI kk2
      have hrd := readsAll_tk (tk_iter st.it kk2) st.rd
      show wpAny _ A (assign (.Name y py) env (.ref D)) _ _ _
      subst hL
      have Fk := Keep.fr hkeep F
      refine wpAny_assign_Name (wpAny_storeName_local hy Fk.ns (fun h5 hn5 hs5 => ?_) hp)
      have hLC : env.locals ≠ C := by rintro rfl; obtain ⟨o, _, _, q, _⟩ := F.ns; rw [ap.nC] at q; cases q
      have hLD : env.locals ≠ D := by rintro rfl; obtain ⟨o, _, _, q, _⟩ := F.ns; rw [ap.nD] at q; cases q
      refine ⟨_, hns.sameBut hs5 (Ne.symm hLC), fun h6 hs6 => ?_⟩
      have k56 : ∀ b o, b ≠ env.locals → b ≠ C → h2'.get? b = some o → h6.get? b = some o := fun b o h1 h2 e => (hs6.2 b h2).trans ((hs5.2 b h1).trans e)
      have kall : ∀ b o, b ≠ env.locals → s.heap.get? b = some o → h6.get? b = some o := fun b o hb e => k56 b o hb (by rintro rfl; rw [ap.nC] at e; cases e) (hkeep _ _ e)
      have nD' : s.heap.get? D = none := ap.nD
      have gD : g.get? D = none := by
        cases q : g.get? D with
        | none => rfl
        | some o => rw [F.keep D o q] at nD'; cases nD'
      refine done D h6 _ ys k kall nD' ⟨hn5.sameBut hs6 hLC, fun b o e => kall b o (fun hb => by
        have := Heap.lt_size e; rw [hb] at this; exact absurd (Nat.lt_of_lt_of_le this F.above) (Nat.lt_irrefl _)) (F.keep b o e), F.above⟩ (fun p hp => ?_) ?_
      · rcases List.mem_cons.mp hp with rfl | hp
        · exact ⟨k56 _ _ (Ne.symm hLD) ap.DC hacc, Ne.symm hLD, gD⟩
        · exact ⟨kall _ _ (N p hp).2.1 (N p hp).1, (N p hp).2⟩
      · exact readsAll_tk (TK.trans (tk_ns Fk.ns fun b ob hb e => (hs5.2 b hb).trans e) (tk_ns (hns.sameBut hs5 (Ne.symm hLC)) fun b ob hb e => (hs6.2 b hb).trans e)) hrd
  exact codeAny_compStart_list (loop _ rfl) (wpAny_pyIter_listiter (let ⟨_, q⟩ := st0; q.it) (loop _ rfl))
theorem all : ∀ c : (World) × (Around) × (Value → Shared → Prop) × (Shared) × (Heap) × (Str → Option Value) × (Env) × (List (Addr × Obj)) × (PySem.Expr) × (PySem.Expr) × (PySem.Expr) × (Str) × (Str) × (Str) × (Pos) × (Pos) × (Pos) × (Scope) × (List (Str × Addr)) × (Pos) × (Pos) × (Flow → Shared → Prop) × (Addr) × (Addr) × (Nat) × (Nat) × (List Value) × (List Value) × (List PyData) × (List PyData), Wk c.1 c.2.1 c.2.2.1 c.2.2.2.1 c.2.2.2.2.1 c.2.2.2.2.2.1 c.2.2.2.2.2.2.1 c.2.2.2.2.2.2.2.1 c.2.2.2.2.2.2.2.2.1 c.2.2.2.2.2.2.2.2.2.1 c.2.2.2.2.2.2.2.2.2.2.1 c.2.2.2.2.2.2.2.2.2.2.2.1 c.2.2.2.2.2.2.2.2.2.2.2.2.1 c.2.2.2.2.2.2.2.2.2.2.2.2.2.1 c.2.2.2.2.2.2.2.2.2.2.2.2.2.2.1 c.2.2.2.2.2.2.2.2.2.2.2.2.2.2.2.1 c.2.2.2.2.2.2.2.2.2.2.2.2.2.2.2.2.1 c.2.2.2.2.2.2.2.2.2.2.2.2.2.2.2.2.2.1 c.2.2.2.2.2.2.2.2.2.2.2.2.2.2.2.2.2.2.1 c.2.2.2.2.2.2.2.2.2.2.2.2.2.2.2.2.2.2.2.1 c.2.2.2.2.2.2.2.2.2.2.2.2.2.2.2.2.2.2.2.2.1 c.2.2.2.2.2.2.2.2.2.2.2.2.2.2.2.2.2.2.2.2.2.1 c.2.2.2.2.2.2.2.2.2.2.2.2.2.2.2.2.2.2.2.2.2.2.1 c.2.2.2.2.2.2.2.2.2.2.2.2.2.2.2.2.2.2.2.2.2.2.2.1 c.2.2.2.2.2.2.2.2.2.2.2.2.2.2.2.2.2.2.2.2.2.2.2.2.1 c.2.2.2.2.2.2.2.2.2.2.2.2.2.2.2.2.2.2.2.2.2.2.2.2.2.1 c.2.2.2.2.2.2.2.2.2.2.2.2.2.2.2.2.2.2.2.2.2.2.2.2.2.2.1 c.2.2.2.2.2.2.2.2.2.2.2.2.2.2.2.2.2.2.2.2.2.2.2.2.2.2.2.1 c.2.2.2.2.2.2.2.2.2.2.2.2.2.2.2.2.2.2.2.2.2.2.2.2.2.2.2.2.1 c.2.2.2.2.2.2.2.2.2.2.2.2.2.2.2.2.2.2.2.2.2.2.2.2.2.2.2.2.2 := pickA_all (h := inhab) (p := fun c => Wk c.1 c.2.1 c.2.2.1 c.2.2.2.1 c.2.2.2.2.1 c.2.2.2.2.2.1 c.2.2.2.2.2.2.1 c.2.2.2.2.2.2.2.1 c.2.2.2.2.2.2.2.2.1 c.2.2.2.2.2.2.2.2.2.1 c.2.2.2.2.2.2.2.2.2.2.1 c.2.2.2.2.2.2.2.2.2.2.2.1 c.2.2.2.2.2.2.2.2.2.2.2.2.1 c.2.2.2.2.2.2.2.2.2.2.2.2.2.1 c.2.2.2.2.2.2.2.2.2.2.2.2.2.2.1 c.2.2.2.2.2.2.2.2.2.2.2.2.2.2.2.1 c.2.2.2.2.2.2.2.2.2.2.2.2.2.2.2.2.1 c.2.2.2.2.2.2.2.2.2.2.2.2.2.2.2.2.2.1 c.2.2.2.2.2.2.2.2.2.2.2.2.2.2.2.2.2.2.1 c.2.2.2.2.2.2.2.2.2.2.2.2.2.2.2.2.2.2.2.1 c.2.2.2.2.2.2.2.2.2.2.2.2.2.2.2.2.2.2.2.2.1 c.2.2.2.2.2.2.2.2.2.2.2.2.2.2.2.2.2.2.2.2.2.1 c.2.2.2.2.2.2.2.2.2.2.2.2.2.2.2.2.2.2.2.2.2.2.1 c.2.2.2.2.2.2.2.2.2.2.2.2.2.2.2.2.2.2.2.2.2.2.2.1 c.2.2.2.2.2.2.2.2.2.2.2.2.2.2.2.2.2.2.2.2.2.2.2.2.1 c.2.2.2.2.2.2.2.2.2.2.2.2.2.2.2.2.2.2.2.2.2.2.2.2.2.1 c.2.2.2.2.2.2.2.2.2.2.2.2.2.2.2.2.2.2.2.2.2.2.2.2.2.2.1 c.2.2.2.2.2.2.2.2.2.2.2.2.2.2.2.2.2.2.2.2.2.2.2.2.2.2.2.1 c.2.2.2.2.2.2.2.2.2.2.2.2.2.2.2.2.2.2.2.2.2.2.2.2.2.2.2.2.1 c.2.2.2.2.2.2.2.2.2.2.2.2.2.2.2.2.2.2.2.2.2.2.2.2.2.2.2.2.2) (by with_unfolding_all exact @here)
end comp2A_n
theorem comp2A {w : World} {A : Around} {E : Value → Shared → Prop} {s : Shared} {g : Heap} {L : Addr} {m : Str → Option Value} {env : Env} {news : List (Addr × Obj)} {elt : PySem.Expr} {iter1 : PySem.Expr} {iter2 : PySem.Expr} {x1 : Str} {x2 : Str} {y : Str} {px1 : Pos} {px2 : Pos} {py : Pos} {scope : Scope} {cl : List (Str × Addr)} {pos : Pos} {spos : Pos} {Q : Flow → Shared → Prop} {Ee : Addr} {Tt : Addr} {kE : Nat} {kT : Nat} {vsE : List Value} {vsT : List Value} {dsE : List PyData} {dsT : List PyData} (f : PyData → PyData → PyData) (hh : A.handled = none) (hsw : swapsWith (.ListComp elt [⟨.Name x1 px1, iter1, [], 0⟩, ⟨.Name x2 px2, iter2, [], 0⟩] scope pos) (some (.Name y py)) spos.line env = pure true) (hclos : closureFor scope env = pure cl) (hcell : ∀ z ∈ scope.names, z.2 ≠ .cell) (hkind : scope.kind = .function) (hnames : ∀ z ∈ scope.names, z.2 = .local → scope.names.lookup z.1 = some .local) (hx1 : scope.names.lookup x1 = some .local) (hx2 : scope.names.lookup x2 = some .local) (hne : x1 ≠ x2) (hs1 : ∀ x, foldedSetIterable iter1 env x = pure x) (hs2 : ∀ C x, foldedSetIterable iter2 (compEnvC scope cl C env) x = pure x) (hy : env.kindOf y = some .local) (hp : (env.scope.kind == .class || (env.scope.kind == .module && env.locals != env.globals)) = false) (hL : env.locals = L) (F : Fr g L s.heap m) (N : News g L s.heap news) (hE : s.heap.get? Ee = some (listOf vsE.toArray kE)) (hT : s.heap.get? Tt = some (listOf vsT.toArray kT)) (RE : ReadsAll s.heap vsE dsE []) (RT : ReadsAll s.heap vsT dsT []) (hz : vsE.length * vsT.length ≤ 100000) (h1 : wpAny (model PG w) A (eval iter1 env) (fun xv s₁ => xv = .ref Ee ∧ s₁ = s) E s) (h2 : ∀ C h tk, Keep s.heap h → wpAny (model PG w) A (eval iter2 (compEnvC scope cl C env)) (fun xv s₁ => xv = .ref Tt ∧ s₁ = { s with heap := h, toks := tk }) (fun _ _ => False) { s with heap := h, toks := tk }) (helt : ∀ C h tk m₃ a b da db, da ∈ dsE → db ∈ dsT → Reads s.heap a da [] → Reads s.heap b db [] → Keep s.heap h → h.Ns C m₃ → m₃ x1 = some a → m₃ x2 = some b →
      wpAny (model PG w) A (eval elt (compEnvC scope cl C env)) (fun y s₄ => ∃ h' tk', s₄ = { s with heap := h', toks := tk' } ∧ Keep h h' ∧ Reads h' y (f da db) []) (fun _ _ => False) { s with heap := h, toks := tk }) (done : ∀ D h' tk ys k, (∀ b o, b ≠ L → s.heap.get? b = some o → h'.get? b = some o) → s.heap.get? D = none → Fr g L h' (fun z => if z = y then some (.ref D) else m z) → News g L h' ((D, listOf ys.toArray k) :: news) → ReadsAll h' ys (dsE.flatMap fun a => dsT.map fun b => f a b) [] → Q .next { s with heap := h', toks := tk }) :
    wpAny (model PG w) A (exec (.Assign [.Name y py] (.ListComp elt [⟨.Name x1 px1, iter1, [], 0⟩, ⟨.Name x2 px2, iter2, [], 0⟩] scope pos) spos) env) Q E s :=
  comp2A_n.all (w, A, E, s, g, m, env, news, elt, iter1, iter2, x1, x2, y, px1, px2, py, scope, cl, pos, spos, Q, Ee, Tt, kE, kT, vsE, vsT, dsE, dsT) L f hh hsw hclos hcell hkind hnames hx1 hx2 hne hs1 hs2 hy hp hL F N hE hT RE RT hz h1 h2 helt done
section
variable {w : World} {A : Around} {E : Value → Shared → Prop} {s : Shared} {g : Heap} {L : Addr} {m : Str → Option Value} {env : Env} {news : List (Addr × Obj)}
end
end Mine
namespace Mine
section
variable {w : World} {A : Around} {E : Value → Shared → Prop} {s : Shared} {g : Heap} {L : Addr} {env : Env}
structure LoopSrc (w : World) (A : Around) (g : Heap) (L : Addr) (n : Nat) (P : Nat → Value → Prop) (src : Heap → Prop) (s₂ : Shared) (I : Addr) (fp : List Addr) (St : Nat → Heap → Prop) (m : Str → Option Value) (news : List (Addr × Obj)) : Prop where
  walks : Walks PG w A I fp [I] n P St
  back : ∀ i h h' oI, St i h → h.get? I = some oI → h'.get? I = some oI → src h' → St i h'
  there : ∀ i h, St i h → ∃ oI, h.get? I = some oI ∧ oI.cls ≠ .type "tuple"
  start : St 0 s₂.heap
  offL : I ≠ L
  new : g.get? I = none
  fr : Fr g L s₂.heap m
  nw : News g L s₂.heap news
  off : ∀ p ∈ news, @Ne Nat p.1 I
end
namespace forCore_n
noncomputable def Wk (w : World) (A : Around) (E : Value → Shared → Prop) (s : Shared) (g : Heap) (L : Addr) (env : Env) (target : PySem.Expr) (iter : PySem.Expr) (body : List Stmt) (pos : Pos) (Q : Flow → Shared → Prop) : Prop := ∀  (n : Nat) (P : Nat → Value → Prop) (src : Heap → Prop) (J : Nat → (Str → Option Value) → List (Addr × Obj) → Prop) (hs : ∀ x, foldedSetIterable iter env x = pure x) (hit : ∀ R₁ : Value → Shared → Prop, (∀ (s₂ : Shared) (I : Addr) (fp : List Addr) (St : Nat → Heap → Prop) (m : Str → Option Value) (news : List (Addr × Obj)), LoopSrc w A g L n P src s₂ I fp St m news → J 0 m news →
      (∀ i m₁ news₁ h, J i m₁ news₁ → Fr g L h m₁ → News g L h news₁ → src h) →
      (∀ i v m₁ news₁ oI h tk dr (R : Flow → Shared → Prop), (∀ h' tk' dr' m' news', Fr g L h' m' → News g L h' ((I, oI) :: news') → (∀ p ∈ news', @Ne Nat p.1 I) → J (i + 1) m' news' → R .next { s₂ with heap := h', toks := tk', drawn := dr' }) →
        i < n → P i v → J i m₁ news₁ → (∀ p ∈ news₁, @Ne Nat p.1 I) → Fr g L h m₁ → News g L h ((I, oI) :: news₁) → oI.cls ≠ .type "tuple" → (∃ i, St i h) →
        wpAny (model PG w) A (letOwnedTupleGo target (.ref I) v) (fun _ s' => wpAny (model PG w) A (assign target env v) (fun _ s₃ => wpAny (model PG w) A (execs body env) R (fun _ _ => False) s₃) (fun _ _ => False) s') (fun _ _ => False) { s₂ with heap := h, toks := tk, drawn := dr }) →
      (∀ h tk dr m' news', Fr g L h m' → News g L h news' → J n m' news' → Q .next { s₂ with heap := h, toks := tk, drawn := dr }) → R₁ (.ref I) s₂) →
      wpAny (model PG w) A (eval iter env) (fun xv s₁ => wpAny (model PG w) A (pyIter xv) R₁ E s₁) E s), wpAny (model PG w) A (exec (.For target iter body [] pos) env) Q E s
theorem inhab : Nonempty ((World) × (Around) × (Value → Shared → Prop) × (Shared) × (Heap) × (Addr) × (Env) × (PySem.Expr) × (PySem.Expr) × (List Stmt) × (Pos) × (Flow → Shared → Prop)) := ⟨((aWorld 1), ({}), (fun _ _ => True), ({}), ({}), (0), (envAt 85 0), (default), (default), (default), (default), (fun _ _ => True))⟩
noncomputable def cc : (World) × (Around) × (Value → Shared → Prop) × (Shared) × (Heap) × (Addr) × (Env) × (PySem.Expr) × (PySem.Expr) × (List Stmt) × (Pos) × (Flow → Shared → Prop) := pickA inhab fun c => Wk c.1 c.2.1 c.2.2.1 c.2.2.2.1 c.2.2.2.2.1 c.2.2.2.2.2.1 c.2.2.2.2.2.2.1 c.2.2.2.2.2.2.2.1 c.2.2.2.2.2.2.2.2.1 c.2.2.2.2.2.2.2.2.2.1 c.2.2.2.2.2.2.2.2.2.2.1 c.2.2.2.2.2.2.2.2.2.2.2
@[irreducible] noncomputable def w : World := cc.1
@[irreducible] noncomputable def A : Around := cc.2.1
@[irreducible] noncomputable def E : Value → Shared → Prop := cc.2.2.1
@[irreducible] noncomputable def s : Shared := cc.2.2.2.1
@[irreducible] noncomputable def g : Heap := cc.2.2.2.2.1
@[irreducible] noncomputable def L : Addr := cc.2.2.2.2.2.1
@[irreducible] noncomputable def env : Env := cc.2.2.2.2.2.2.1
@[irreducible] noncomputable def target : PySem.Expr := cc.2.2.2.2.2.2.2.1
@[irreducible] noncomputable def iter : PySem.Expr := cc.2.2.2.2.2.2.2.2.1
@[irreducible] noncomputable def body : List Stmt := cc.2.2.2.2.2.2.2.2.2.1
@[irreducible] noncomputable def pos : Pos := cc.2.2.2.2.2.2.2.2.2.2.1
@[irreducible] noncomputable def Q : Flow → Shared → Prop := cc.2.2.2.2.2.2.2.2.2.2.2
theorem here : Wk w A E s g L env target iter body pos Q := by
  unfold Wk
  intro  n P src J hs hit
  rw [arm_exec_For]
  refine wpAny_bind (wpAny_standAt (wpAny_bind (wpAny_mono (hit _ fun s₂ I fp St m news ls j0 hsrc step done => ?_) (fun xv s₁ h₁ => wpAny_bind (wpAny_of_eq (hs _) (wpAny_bind (wpAny_standAt (wpAny_bind (wpAny_holding h₁)))))) fun _ _ x => x)))
  refine wpAny_runOwn ?_
  rw [Around.mark_none]
  refine codeAny_forLoop_any (fun k s' => ∃ h tk dr m₁ news₁ i, s' = { s₂ with heap := h, toks := tk, drawn := dr } ∧ k = n - i ∧ i ≤ n ∧ Fr g L h m₁ ∧ News g L h news₁ ∧ (∀ p ∈ news₁, @Ne Nat p.1 I) ∧ J i m₁ news₁ ∧ St i h) ?_ (n - 0)
    ⟨_, _, _, m, news, 0, rfl, rfl, Nat.zero_le _, ls.fr, ls.nw, ls.off, j0, ls.start⟩
  rintro k s' ⟨h, tk, dr, m₁, news₁, i, rfl, rfl, hi, F₁, N₁, off₁, hJ, hst⟩
  have up : ∀ h' : Heap, (∀ b o, b ∉ [I] → h.get? b = some o → h'.get? b = some o) → Fr g L h' m₁ ∧ News g L h' news₁ := fun h' hk => by
    have hk' : ∀ b o, b ≠ I → h.get? b = some o → h'.get? b = some o := fun b o hb e => hk b o (by simpa using hb) e
    obtain ⟨oL, es, ep, hL, r⟩ := F₁.ns
    exact ⟨⟨⟨oL, es, ep, hk' _ _ (Ne.symm ls.offL) hL, r⟩, fun b o e => hk' b o (by rintro rfl; rw [ls.new] at e; cases e) (F₁.keep b o e), F₁.above⟩, fun p hp => ⟨hk' _ _ (off₁ p hp) (N₁ p hp).1, (N₁ p hp).2⟩⟩
  rcases Nat.lt_or_ge i n with hlt | hge
  · refine ls.walks.item i _ _ _ hlt hst fun v h' tk' hP hst' hk => ?_
    obtain ⟨F₂, N₂⟩ := up h' hk
    obtain ⟨oI, hoI, hIc⟩ := ls.there _ _ hst'
    refine wpAny_mono (step i v m₁ news₁ oI h' tk' dr _ (fun h5 tk5 dr5 m5 news5 F5 N5 off5 hJ5 => ?_) hlt hP hJ off₁ F₂ (fun p hp => ?_) hIc ⟨_, hst'⟩) (fun _ s' hq => wpAny_mono hq (fun _ s₃ hq => wpAny_mono hq (fun _ _ x => x) fun _ _ x => x.elim) fun _ _ x => x.elim) fun _ _ x => x.elim
    rotate_left
    · rcases List.mem_cons.mp hp with rfl | hp
      · exact ⟨hoI, ls.offL, ls.new⟩
      · exact N₂ p hp
    · have N5' : News g L h5 news5 := fun p hp => N5 p (.tail _ hp)
      exact ⟨n - (i + 1), by omega, h5, tk5, dr5, m5, news5, i + 1, rfl, rfl, hlt, F5, N5', off5, hJ5, ls.back _ h' _ oI hst' hoI (N5 _ (.head _)).1 (hsrc _ _ _ _ hJ5 F5 N5')⟩
  · have e : i = n := Nat.le_antisymm hi hge
    subst e
    refine ls.walks.done _ _ _ hst fun h' tk' hk => ?_
    obtain ⟨F₂, N₂⟩ := up h' hk
    exact wpAny_execs_nil (done h' tk' dr m₁ news₁ F₂ N₂ hJ)
theorem all : ∀ c : (World) × (Around) × (Value → Shared → Prop) × (Shared) × (Heap) × (Addr) × (Env) × (PySem.Expr) × (PySem.Expr) × (List Stmt) × (Pos) × (Flow → Shared → Prop), Wk c.1 c.2.1 c.2.2.1 c.2.2.2.1 c.2.2.2.2.1 c.2.2.2.2.2.1 c.2.2.2.2.2.2.1 c.2.2.2.2.2.2.2.1 c.2.2.2.2.2.2.2.2.1 c.2.2.2.2.2.2.2.2.2.1 c.2.2.2.2.2.2.2.2.2.2.1 c.2.2.2.2.2.2.2.2.2.2.2 := pickA_all (h := inhab) (p := fun c => Wk c.1 c.2.1 c.2.2.1 c.2.2.2.1 c.2.2.2.2.1 c.2.2.2.2.2.1 c.2.2.2.2.2.2.1 c.2.2.2.2.2.2.2.1 c.2.2.2.2.2.2.2.2.1 c.2.2.2.2.2.2.2.2.2.1 c.2.2.2.2.2.2.2.2.2.2.1 c.2.2.2.2.2.2.2.2.2.2.2) (by with_unfolding_all exact @here)
end forCore_n
theorem forCore {w : World} {A : Around} {E : Value → Shared → Prop} {s : Shared} {g : Heap} {L : Addr} {env : Env} {target : PySem.Expr} {iter : PySem.Expr} {body : List Stmt} {pos : Pos} {Q : Flow → Shared → Prop} (n : Nat) (P : Nat → Value → Prop) (src : Heap → Prop) (J : Nat → (Str → Option Value) → List (Addr × Obj) → Prop) (hs : ∀ x, foldedSetIterable iter env x = pure x) (hit : ∀ R₁ : Value → Shared → Prop, (∀ (s₂ : Shared) (I : Addr) (fp : List Addr) (St : Nat → Heap → Prop) (m : Str → Option Value) (news : List (Addr × Obj)), LoopSrc w A g L n P src s₂ I fp St m news → J 0 m news →
      (∀ i m₁ news₁ h, J i m₁ news₁ → Fr g L h m₁ → News g L h news₁ → src h) →
      (∀ i v m₁ news₁ oI h tk dr (R : Flow → Shared → Prop), (∀ h' tk' dr' m' news', Fr g L h' m' → News g L h' ((I, oI) :: news') → (∀ p ∈ news', @Ne Nat p.1 I) → J (i + 1) m' news' → R .next { s₂ with heap := h', toks := tk', drawn := dr' }) →
        i < n → P i v → J i m₁ news₁ → (∀ p ∈ news₁, @Ne Nat p.1 I) → Fr g L h m₁ → News g L h ((I, oI) :: news₁) → oI.cls ≠ .type "tuple" → (∃ i, St i h) →
        wpAny (model PG w) A (letOwnedTupleGo target (.ref I) v) (fun _ s' => wpAny (model PG w) A (assign target env v) (fun _ s₃ => wpAny (model PG w) A (execs body env) R (fun _ _ => False) s₃) (fun _ _ => False) s') (fun _ _ => False) { s₂ with heap := h, toks := tk, drawn := dr }) →
      (∀ h tk dr m' news', Fr g L h m' → News g L h news' → J n m' news' → Q .next { s₂ with heap := h, toks := tk, drawn := dr }) → R₁ (.ref I) s₂) →
      wpAny (model PG w) A (eval iter env) (fun xv s₁ => wpAny (model PG w) A (pyIter xv) R₁ E s₁) E s) :
    wpAny (model PG w) A (exec (.For target iter body [] pos) env) Q E s :=
  forCore_n.all (w, A, E, s, g, L, env, target, iter, body, pos, Q)  n P src J hs hit
section
variable {w : World} {A : Around} {E : Value → Shared → Prop} {s : Shared} {g : Heap} {L : Addr} {env : Env}
theorem srcList {vs : List Value} {k : Nat} {ax : Addr} {Q : Value → Shared → Prop} {m : Str → Option Value} {news : List (Addr × Obj)} (hh : A.handled = none) (hL : s.heap.get? ax = some (listOf vs.toArray k)) (F : Fr g L s.heap m) (N : News g L s.heap news)
    (h : ∀ I fp St h', Keep s.heap h' → LoopSrc w A g L vs.length (fun i v => vs[i]? = some v) (fun h' => h'.get? ax = some (listOf vs.toArray k)) { s with heap := h' } I fp St m news → (∀ i h, St i h → ∃ l j, h.IsListIter I l j) → Q (.ref I) { s with heap := h' }) :
    wpAny (model PG w) A (pyIter (.ref ax)) Q E s := by
  refine wpAny_pyIter_list ⟨_, hL, rfl, k, rfl⟩ ?_
  have hne : ax ≠ s.heap.objs.size := Nat.ne_of_lt (Heap.lt_size hL)
  have W := Walks.list (prog := PG) (w := w) hh s.heap.objs.size ax hne vs.toArray
  have kk : Keep s.heap (s.heap.push { cls := .type "list_iterator", data := .fields #[.ref ax, .int 0 0] }) := fun b o e => Heap.get?_push_of_some _ e
  have hn : g.get? s.heap.objs.size = none := by
    cases q : g.get? s.heap.objs.size with
    | none => rfl
    | some o => have := F.keep _ _ q; rw [none_size] at this; cases this
  simp only [List.size_toArray, List.getElem?_toArray] at W
  refine h s.heap.objs.size _ _ _ kk ⟨W, ?_, ?_, ?_, ?_, hn, Keep.fr kk F, Keep.news kk N, newsNe N (none_size _)⟩ ?_
  · rintro i h h' oI ⟨⟨o, ho, r⟩, _⟩ e1 e2 hs
    rw [ho] at e1; cases e1
    exact ⟨⟨_, e2, r⟩, ⟨_, hs, rfl, k, rfl⟩⟩
  · rintro i h ⟨⟨o, ho, hc, _⟩, _⟩; exact ⟨o, ho, by rw [hc]; decide⟩
  · exact ⟨⟨_, Heap.get?_push_size _ rfl, rfl, rfl⟩, ⟨_, kk _ _ hL, rfl, k, rfl⟩⟩
  · rintro rfl
    obtain ⟨o, _, _, q, _⟩ := F.ns
    rw [none_size] at q; cases q
  · rintro i h ⟨x, _⟩; exact ⟨_, _, x⟩
theorem srcRange {n : Nat} {r : Addr} {t u v : Tok} {Q : Value → Shared → Prop} {m : Str → Option Value} {news : List (Addr × Obj)} (hh : A.handled = none) (hr : IsRange s.heap r 0 n 1 t u v) (hsm : Builtin.Range.small 0 n 1 = true) (hsz : Builtin.Range.rangeSize 0 n 1 = n) (F : Fr g L s.heap m) (N : News g L s.heap news)
    (h : ∀ I fp St h', Keep s.heap h' → LoopSrc w A g L n (fun i v => ∃ t, v = .int ((i : Nat) : Int) t) (fun _ => True) { s with heap := h' } I fp St m news → Q (.ref I) { s with heap := h' }) :
    wpAny (model PG w) A (pyIter (.ref r)) Q E s := by
  refine wpAny_pyIter_range hr hsm ?_
  rw [hsz]
  have W := Walks.range (prog := PG) (w := w) hh s.heap.objs.size 0 1 n
  have kk : Keep s.heap (s.heap.push { cls := .type "range_iterator", data := .fields #[rawInt 0, rawInt n, rawInt 1] }) := fun b o e => Heap.get?_push_of_some _ e
  have hn : g.get? s.heap.objs.size = none := by
    cases q : g.get? s.heap.objs.size with
    | none => rfl
    | some o => have := F.keep _ _ q; rw [none_size] at this; cases this
  refine h s.heap.objs.size _ _ _ kk ⟨⟨W.sub, W.frame, fun i s Q E hi st hQ => W.item i s Q E hi st fun v h tk hP => hQ v h tk ?_, W.done, W.self⟩, ?_, ?_, ?_, ?_, hn, Keep.fr kk F, Keep.news kk N, newsNe N (none_size _)⟩
  · obtain ⟨t, rfl⟩ := hP
    exact ⟨t, by simp⟩
  · intro i h h' oI x e1 e2 _
    rw [x] at e1; cases e1; exact e2
  · intro i h x; exact ⟨_, x, by show Value.type "range_iterator" ≠ _; decide⟩
  · have := Heap.get?_push_size s.heap (o := { cls := .type "range_iterator", data := .fields #[rawInt 0, rawInt n, rawInt 1] }) rfl
    simpa using this
  · rintro rfl
    obtain ⟨o, _, _, q, _⟩ := F.ns
    rw [none_size] at q; cases q
end
noncomputable def tups (g h : Heap) : List (Addr × Obj) := (List.range h.objs.size).filterMap fun b => match h.get? b, g.get? b with
  | some o, none => (match o.cls, o.data with | .type "tuple", .seq _ _ => some (b, o) | _, _ => none)
  | _, _ => none
noncomputable def AllTup (Ts : List (Addr × Obj)) : Prop := ∀ p ∈ Ts, p.2.cls = .type "tuple"
theorem tups_mem {g h : Heap} {p : Addr × Obj} (hp : p ∈ tups g h) : h.get? p.1 = some p.2 ∧ g.get? p.1 = none ∧ p.2.cls = .type "tuple" ∧ ∃ vs n, p.2.data = .seq vs n := by
  unfold tups at hp
  obtain ⟨b, _, hb⟩ := List.mem_filterMap.mp hp
  split at hb
  · rename_i o e1 e2
    split at hb
    · rename_i vs n c1 c2
      cases hb
      exact ⟨e1, e2, c1, vs, n, c2⟩
    · cases hb
  · cases hb
theorem mem_tups {g h : Heap} {b : Addr} {o : Obj} {vs : Array Value} {n : Nat} (e : h.get? b = some o) (eg : g.get? b = none) (hc : o.cls = .type "tuple") (hd : o.data = .seq vs n) : (b, o) ∈ tups g h := by
  unfold tups
  refine List.mem_filterMap.mpr ⟨b, List.mem_range.mpr (Heap.lt_size e), ?_⟩
  rw [e, eg]
  simp only [hc, hd]
theorem news_tups {g h : Heap} {L : Addr} {m : Str → Option Value} (F : Fr g L h m) : News g L h (tups g h) := fun p hp => by
  obtain ⟨a, b, _, vs, n, d⟩ := tups_mem hp
  refine ⟨a, ?_, b⟩
  intro e
  obtain ⟨o, es, ep, hL, hd, _⟩ := F.ns
  rw [← e, a] at hL; cases hL
  rw [d] at hd; cases hd
theorem newsJoin {g h : Heap} {L : Addr} {a b : List (Addr × Obj)} (x : News g L h a) (y : News g L h b) : News g L h (a ++ b) := fun p hp => (List.mem_append.mp hp).elim (x p) (y p)
theorem alltup_tups (g h : Heap) : AllTup (tups g h) := fun p hp => (tups_mem hp).2.2.1
theorem tk_tups {g h h' : Heap} (k : Keep g h') (kT : ∀ p ∈ tups g h, h'.get? p.1 = some p.2) (kg : Keep g h) : TK h h' := fun b o vs n hc hd e => by
  cases q : g.get? b with
  | none => exact kT _ (mem_tups e q hc hd)
  | some o' =>
    have := kg _ _ q
    rw [e] at this; cases this
    exact k _ _ q
theorem tsNe {g h : Heap} {L X : Addr} {oX : Obj} {news Ts : List (Addr × Obj)} (N : News g L h news) (hX : (X, oX) ∈ news) (hsub : ∀ p ∈ Ts, p ∈ news) (hT : AllTup Ts) (hc : oX.cls ≠ .type "tuple") : ∀ p ∈ Ts, @Ne Nat p.1 X := fun p hp e => by
  have h1 := (N p (hsub p hp)).1
  have h2 := (N _ hX).1
  rw [e] at h1
  rw [h1] at h2
  have := hT p hp
  cases h2
  exact hc this
end Mine
namespace Mine
section
variable {w : World} {A : Around} {E : Value → Shared → Prop} {s : Shared} {g : Heap} {L : Addr} {m : Str → Option Value} {news : List (Addr × Obj)}
theorem readsAll_nilv {h : Heap} {vs : List Value} (r : ReadsAll h vs [] []) : vs = [] := by cases r; rfl
theorem addTupR {v1 v2 : Value} {as bs : List PyData} {Q : Value → Shared → Prop} (R1 : Reads s.heap v1 (.tuple as) []) (R2 : Reads s.heap v2 (.tuple bs) []) (hz : as.length + bs.length ≤ 1000)
    (h : ∀ y h', Keep s.heap h' → Reads h' y (.tuple (as ++ bs)) [] → Q y { s with heap := h' }) : wpAny (model PG w) A (binaryOp .Add v1 v2) Q E s := by
  have R1' := R1
  have R2' := R2
  obtain ⟨a, ⟨c1, d1, t1, sl1⟩, vs, n1, rfl, h1, hc1, hd1, r1⟩ := reads_tup R1
  obtain ⟨b, ⟨c2, d2, t2, sl2⟩, ws, n2, rfl, h2, hc2, hd2, r2⟩ := reads_tup R2
  dsimp only at hc1 hd1 hc2 hd2
  subst hc1 hd1 hc2 hd2
  have l1 := readsAll_len r1
  have l2 := readsAll_len r2
  rw [Array.length_toList] at l1 l2
  have ba : ∀ {x : Array Value}, x.isEmpty = true → x.toList = [] := fun {x} e => by simpa using e
  rcases Bool.eq_false_or_eq_true vs.isEmpty with e1 | e1
  · refine concat_meets ⟨_, h1, rfl⟩ ⟨_, h2, rfl⟩ noFill_tuple_add seq_tuple_add PySem.F.slot_tuple_add PySem.F.entry_tuple_add (PySem.F.args_tuple_add_2 _ _) (tuple_addW0 a b vs ws n1 n2 d1 d2 sl1 sl2 e1) ⟨h1, h2, ?_⟩
    have ea : as = [] := List.eq_nil_of_length_eq_zero (by rw [← l1, ← Array.length_toList, ba e1]; rfl)
    subst ea
    exact h _ _ (Keep.refl _) R2'
  · rcases Bool.eq_false_or_eq_true ws.isEmpty with e2 | e2
    · refine concat_meets ⟨_, h1, rfl⟩ ⟨_, h2, rfl⟩ noFill_tuple_add seq_tuple_add PySem.F.slot_tuple_add PySem.F.entry_tuple_add (PySem.F.args_tuple_add_2 _ _) (tuple_addW1 a b vs ws n1 n2 d1 d2 sl1 sl2 (by rw [e1]; decide) e2) ⟨h1, h2, ?_⟩
      have eb : bs = [] := List.eq_nil_of_length_eq_zero (by rw [← l2, ← Array.length_toList, ba e2]; rfl)
      subst eb
      rw [List.append_nil] at h
      exact h _ _ (Keep.refl _) R1'
    · refine concat_meets ⟨_, h1, rfl⟩ ⟨_, h2, rfl⟩ noFill_tuple_add seq_tuple_add PySem.F.slot_tuple_add PySem.F.entry_tuple_add (PySem.F.args_tuple_add_2 _ _) (tuple_addW2 a b vs ws n1 n2 d1 d2 sl1 sl2 (by rw [e1]; decide) (by rw [e2]; decide) (by rw [sizeLine_eq]; omega)) ⟨h1, h2, ?_⟩
      refine h _ _ (fun p o q => Heap.get?_push_of_some _ q) (.tuple (Heap.get?_push_size _ rfl) rfl rfl ?_)
      rw [Array.toList_append]
      have k : Keep s.heap (s.heap.push { cls := Value.type "tuple", data := Data.seq (vs ++ ws) }) := fun p o q => Heap.get?_push_of_some _ q
      exact readsAll_app (readsAll_tk (Keep.tk k) r1) (readsAll_tk (Keep.tk k) r2)
theorem addLst {A1 A2 : Addr} {ws vs : List Value} {k1 k2 : Nat} {Q : Value → Shared → Prop} (F : Fr g L s.heap m) (N : News g L s.heap news) (h1 : (A1, listOf ws.toArray k1) ∈ news) (h2 : (A2, listOf vs.toArray k2) ∈ news) (hz : ws.length + vs.length ≤ 2 ^ 20)
    (h : ∀ D h', Fr g L h' m → News g L h' ((D, listOf (ws ++ vs).toArray 0) :: news) → (∀ p ∈ news, @Ne Nat p.1 D) → Q (.ref D) { s with heap := h' }) : wpAny (model PG w) A (binaryOp .Add (.ref A1) (.ref A2)) Q E s := by
  refine add_arrays (its := ws.toArray) (its2 := vs.toArray) F N (N.isList h1) (N.isList h2) (fun h' F' N' => ?_) (by simp [sizeLine_eq]; omega)
  exact h _ h' F' (by simpa [PySem.W.listOf] using N') (newsNe N (none_size _))
theorem tup1R {C : Addr} {scope : Scope} {cl : List (Str × Addr)} {env : Env} {x : Str} {px pos : Pos} {kk : Nat} {m₃ : Str → Option Value} {b : Value} {db : PyData} {Q : Value → Shared → Prop} (hn : s.heap.Ns C m₃) (hx : m₃ x = some b) (rb : Reads s.heap b db [])
    (h : ∀ y h', Keep s.heap h' → Reads h' y (.tuple [db]) [] → Q y { s with heap := h' })
    (hk : (compEnvC scope cl C env).scope.kind = .function) (hl : (compEnvC scope cl C env).kindOf x = some .local) (hd : (x == ("__debug__" : Str)) = false) :
    wpAny (model PG w) A (eval (.Tuple [.Name x px] kk pos) (compEnvC scope cl C env)) Q E s := by
  refine wpAny_Tuple ?_
  have k : Keep s.heap (s.heap.push { cls := .type "tuple", data := .seq [b].toArray }) := fun p o q => Heap.get?_push_of_some _ q
  exact spliced_cons (ldVarK hn hx (spliced_nil ⟨by rw [sizeLine_eq, List.length_singleton]; decide, h _ _ k (.tuple (Heap.get?_push_size _ rfl) rfl rfl (ReadsAll.cons (as := []) (reads_tk' (Keep.tk k) rb) .nil))⟩) hk hl hd)
end
theorem frPin2 {h₀ h : Heap} {L : Addr} {m : Str → Option Value} {x y : Str} {v u : Value} (F : Fr h₀ L h m) (e1 : m x = some v) (e2 : m y = some u) : Fr h₀ L h (fun z => if z = y then some u else if z = x then some v else m z) := by
  have : (fun z => if z = y then some u else if z = x then some v else m z) = m := by
    funext z
    by_cases h : z = y
    · rw [if_pos h, h, e2]
    · rw [if_neg h]
      by_cases h : z = x
      · rw [if_pos h, h, e1]
      · rw [if_neg h]
  rw [this]; exact F
theorem newsPull {g h : Heap} {L : Addr} {a b c : Addr × Obj} {r : List (Addr × Obj)} (N : News g L h (a :: b :: c :: r)) : News g L h (c :: a :: b :: r) := fun p hp => N p (by
  rcases List.mem_cons.mp hp with rfl | hp
  · exact .tail _ (.tail _ (.head _))
  · rcases List.mem_cons.mp hp with rfl | hp
    · exact .head _
    · rcases List.mem_cons.mp hp with rfl | hp
      · exact .tail _ (.head _)
      · exact .tail _ (.tail _ (.tail _ hp)))
theorem pair_open {h : Heap} {d1 : PyData} {vv : Value} {x : Str} (R : Reads h vv (.tuple [d1, .str x]) []) : ∃ a y t, vv = .ref a ∧ IsTup h a #[y, .str x t] ∧ Reads h y d1 [] := by
  obtain ⟨a, o, vs, n, rfl, h1, h2, h3, h4⟩ := reads_tup R
  obtain ⟨vl⟩ := vs
  dsimp only at h4
  match vl, readsAll_len h4 with
  | [y, z], _ =>
    obtain ⟨d', es, e1, r1, r2⟩ := readsAll_cons h4
    cases e1
    obtain ⟨d2, e2, r3⟩ := readsAll_one r2
    cases e2
    obtain ⟨t, rfl⟩ := reads_strE r3 rfl
    exact ⟨a, y, t, rfl, ⟨o, h1, h2, n, h3⟩, r1⟩
noncomputable def RdTs (g : Heap) (Ts : List (Addr × Obj)) (vs : List Value) (ds : List PyData) : Prop := ∀ h, Keep g h → (∀ p ∈ Ts, h.get? p.1 = some p.2) → ReadsAll h vs ds []
theorem RdTs.mono {g : Heap} {Ts Ts' : List (Addr × Obj)} {vs : List Value} {ds : List PyData} (x : RdTs g Ts vs ds) (h : ∀ p ∈ Ts, p ∈ Ts') : RdTs g Ts' vs ds := fun hh k kt => x hh k fun p hp => kt p (h p hp)
theorem RdTs.app {g : Heap} {Ts : List (Addr × Obj)} {vs ws : List Value} {ds es : List PyData} (x : RdTs g Ts vs ds) (y : RdTs g Ts ws es) : RdTs g Ts (vs ++ ws) (ds ++ es) := fun hh k kt => readsAll_app (x hh k kt) (y hh k kt)
theorem RdTs.of_tups {g h : Heap} {vs : List Value} {ds : List PyData} (kg : Keep g h) (r : ReadsAll h vs ds []) : RdTs g (tups g h) vs ds := fun _ k kt => readsAll_tk (tk_tups k kt kg) r
end Mine
namespace Mine
section
variable {w : World} {A : Around} {E : Value → Shared → Prop} {s : Shared} {env : Env}
end
namespace compFst_n
noncomputable def Wk (w : World) (A : Around) (E : Value → Shared → Prop) (s : Shared) (env : Env) (x : Str) (y : Str) (px : Pos) (py : Pos) (p0 : Pos) (tp : Pos) (kk : Nat) (iter : PySem.Expr) (scope : Scope) (cl : List (Str × Addr)) (pos : Pos) (Q : Value → Shared → Prop) (S : Addr) (ks : Nat) (vs : List Value) (ps : List (PyData × Str)) : Prop := ∀  (hh : A.handled = none) (hclos : closureFor scope env = pure cl) (hcell : ∀ z ∈ scope.names, z.2 ≠ .cell) (hkind : scope.kind = .function) (hnames : ∀ z ∈ scope.names, z.2 = .local → scope.names.lookup z.1 = some .local) (hx : scope.names.lookup x = some .local) (hy : scope.names.lookup y = some .local) (hne : x ≠ y) (hs : ∀ x, foldedSetIterable iter env x = pure x) (hd : (x == ("__debug__" : Str)) = false) (hS : s.heap.get? S = some (listOf vs.toArray ks)) (RA : ReadsAll s.heap vs (ps.map pairD) []) (hz : vs.length ≤ 1000) (hit : wpAny (model PG w) A (eval iter env) (fun xv s₁ => xv = .ref S ∧ s₁ = s) E s) (done : ∀ D h' tk ws k, Keep s.heap h' → s.heap.get? D = none → h'.get? D = some (listOf ws.toArray k) → ReadsAll h' ws (ps.map (·.1)) [] → Q (.ref D) { s with heap := h', toks := tk }), wpAny (model PG w) A (eval (.ListComp (.Name x p0) [⟨.Tuple [.Name x px, .Name y py] kk tp, iter, [], 0⟩] scope pos) env) Q E s
theorem inhab : Nonempty ((World) × (Around) × (Value → Shared → Prop) × (Shared) × (Env) × (Str) × (Str) × (Pos) × (Pos) × (Pos) × (Pos) × (Nat) × (PySem.Expr) × (Scope) × (List (Str × Addr)) × (Pos) × (Value → Shared → Prop) × (Addr) × (Nat) × (List Value) × (List (PyData × Str))) := ⟨((aWorld 1), ({}), (fun _ _ => True), ({}), (envAt 85 0), (Str.ofString "a"), (Str.ofString "a"), (default), (default), (default), (default), (0), (default), (default), (default), (default), (fun _ _ => True), (0), (0), (default), (default))⟩
noncomputable def cc : (World) × (Around) × (Value → Shared → Prop) × (Shared) × (Env) × (Str) × (Str) × (Pos) × (Pos) × (Pos) × (Pos) × (Nat) × (PySem.Expr) × (Scope) × (List (Str × Addr)) × (Pos) × (Value → Shared → Prop) × (Addr) × (Nat) × (List Value) × (List (PyData × Str)) := pickA inhab fun c => Wk c.1 c.2.1 c.2.2.1 c.2.2.2.1 c.2.2.2.2.1 c.2.2.2.2.2.1 c.2.2.2.2.2.2.1 c.2.2.2.2.2.2.2.1 c.2.2.2.2.2.2.2.2.1 c.2.2.2.2.2.2.2.2.2.1 c.2.2.2.2.2.2.2.2.2.2.1 c.2.2.2.2.2.2.2.2.2.2.2.1 c.2.2.2.2.2.2.2.2.2.2.2.2.1 c.2.2.2.2.2.2.2.2.2.2.2.2.2.1 c.2.2.2.2.2.2.2.2.2.2.2.2.2.2.1 c.2.2.2.2.2.2.2.2.2.2.2.2.2.2.2.1 c.2.2.2.2.2.2.2.2.2.2.2.2.2.2.2.2.1 c.2.2.2.2.2.2.2.2.2.2.2.2.2.2.2.2.2.1 c.2.2.2.2.2.2.2.2.2.2.2.2.2.2.2.2.2.2.1 c.2.2.2.2.2.2.2.2.2.2.2.2.2.2.2.2.2.2.2.1 c.2.2.2.2.2.2.2.2.2.2.2.2.2.2.2.2.2.2.2.2
@[irreducible] noncomputable def w : World := cc.1
@[irreducible] noncomputable def A : Around := cc.2.1
@[irreducible] noncomputable def E : Value → Shared → Prop := cc.2.2.1
@[irreducible] noncomputable def s : Shared := cc.2.2.2.1
@[irreducible] noncomputable def env : Env := cc.2.2.2.2.1
@[irreducible] noncomputable def x : Str := cc.2.2.2.2.2.1
@[irreducible] noncomputable def y : Str := cc.2.2.2.2.2.2.1
@[irreducible] noncomputable def px : Pos := cc.2.2.2.2.2.2.2.1
@[irreducible] noncomputable def py : Pos := cc.2.2.2.2.2.2.2.2.1
@[irreducible] noncomputable def p0 : Pos := cc.2.2.2.2.2.2.2.2.2.1
@[irreducible] noncomputable def tp : Pos := cc.2.2.2.2.2.2.2.2.2.2.1
@[irreducible] noncomputable def kk : Nat := cc.2.2.2.2.2.2.2.2.2.2.2.1
@[irreducible] noncomputable def iter : PySem.Expr := cc.2.2.2.2.2.2.2.2.2.2.2.2.1
@[irreducible] noncomputable def scope : Scope := cc.2.2.2.2.2.2.2.2.2.2.2.2.2.1
@[irreducible] noncomputable def cl : List (Str × Addr) := cc.2.2.2.2.2.2.2.2.2.2.2.2.2.2.1
@[irreducible] noncomputable def pos : Pos := cc.2.2.2.2.2.2.2.2.2.2.2.2.2.2.2.1
@[irreducible] noncomputable def Q : Value → Shared → Prop := cc.2.2.2.2.2.2.2.2.2.2.2.2.2.2.2.2.1
@[irreducible] noncomputable def S : Addr := cc.2.2.2.2.2.2.2.2.2.2.2.2.2.2.2.2.2.1
@[irreducible] noncomputable def ks : Nat := cc.2.2.2.2.2.2.2.2.2.2.2.2.2.2.2.2.2.2.1
@[irreducible] noncomputable def vs : List Value := cc.2.2.2.2.2.2.2.2.2.2.2.2.2.2.2.2.2.2.2.1
@[irreducible] noncomputable def ps : List (PyData × Str) := cc.2.2.2.2.2.2.2.2.2.2.2.2.2.2.2.2.2.2.2.2
theorem here : Wk w A E s env x y px py p0 tp kk iter scope cl pos Q S ks vs ps := by
  unfold Wk
  intro  hh hclos hcell hkind hnames hx hy hne hs hd hS RA hz hit done
  rw [eval_ListComp]
  refine wpAny_comprehension_free (use := none) rfl hs hclos hkind hnames (wpAny_mono hit (fun xv s₁ h₁ => ?_) fun _ _ e => e)
  obtain ⟨rfl, rfl⟩ := h₁
  have hlE := readsAll_len RA
  rw [List.length_map] at hlE
  refine wpAny_pyIter_list ⟨_, hS, rfl, ks, rfl⟩ ?_
  refine wpAny_newObj_type (wpAny_newFunctionEnv hcell (by intro y hy; simp at hy) (fun h₁ hns₁ hsb₁ => ?_) hkind)
  dsimp only at hns₁ hsb₁ ⊢
  generalize hH1 : s.heap.push { cls := .type "list_iterator", data := .fields #[.ref S, .int 0 0] } = H1 at hns₁ hsb₁ ⊢
  generalize hH2 : H1.push { cls := .type "list", dict := none, data := .seq ([] : List Value).toArray } = H2 at hns₁ hsb₁ ⊢
  have z1 : H1.objs.size = s.heap.objs.size + 1 := by rw [← hH1, Heap.size_push]
  have z2 : H2.objs.size = s.heap.objs.size + 2 := by rw [← hH2, Heap.size_push, z1]
  have ap : Apart s.heap s.heap.objs.size H1.objs.size H2.objs.size := by
    refine ⟨none_size _, Heap.get?_none_of_le (by omega), Heap.get?_none_of_le (by omega), ?_, ?_, ?_⟩
    · rw [z1]; exact Nat.ne_of_lt (by omega)
    · rw [z2]; exact Nat.ne_of_lt (by omega)
    · rw [z1, z2]; exact Nat.ne_of_lt (by omega)
  have up1 : ∀ b o, H1.get? b = some o → H2.get? b = some o := fun b o e => hH2 ▸ Heap.get?_push_of_some _ e
  have up0 : ∀ b o, s.heap.get? b = some o → H1.get? b = some o := fun b o e => hH1 ▸ Heap.get?_push_of_some _ e
  have low : ∀ b o, H2.get? b = some o → h₁.get? b = some o := fun b o e => hsb₁.extBut b o (Nat.ne_of_lt (Heap.lt_size e)) (Heap.get?_push_of_some _ e)
  have hIt : H1.get? s.heap.objs.size = some { cls := .type "list_iterator", data := .fields #[.ref S, .int 0 0] } := by rw [← hH1]; exact Heap.get?_push_size _ rfl
  have hAc : H2.get? H1.objs.size = some (listOf #[] 0) := by rw [← hH2]; exact Heap.get?_push_size _ rfl
  have st0 : ∃ m₃, CompSt s.heap h₁ s.heap.objs.size S H1.objs.size H2.objs.size 0 [] m₃ [] :=
    ⟨_, ⟨fun b o e => low b o (up1 b o (up0 b o e)), ⟨_, low _ _ (up1 _ _ hIt), rfl, rfl⟩, ⟨0, low _ _ hAc⟩, hns₁, .nil⟩⟩
  generalize hI1 : s.heap.objs.size = I1 at *
  generalize hD : H1.objs.size = D at *
  generalize hC : H2.objs.size = C at *
  have hkC : (compEnvC scope cl C env).scope.kind = .function := hkind
  have loop : ∀ s₃ : Shared, s₃ = { s with heap := h₁, toks := s.toks + ([] : List (Str × Value)).length } →
      codeAny (model PG w) A (.compLoop (.ListComp (.Name x p0) [⟨.Tuple [.Name x px, .Name y py] kk tp, iter, [], 0⟩] scope pos) 0 (.ref I1) (.ref D) (compEnvC scope cl C env))
        (compPost (model PG w) A E none Q (.ref D) C) s₃ := by
    rintro s₃ rfl
    refine kcp_loop (fun n s' => ∃ h tk i ys m₃, s' = { s with heap := h, toks := tk } ∧ n = vs.length - i ∧ i ≤ vs.length ∧ ys.length = i ∧ CompSt s.heap h I1 S D C i ys m₃ ((ps.take i).map (·.1))) ?_ (vs.length - 0)
      (let ⟨m₃, q⟩ := st0; ⟨_, _, 0, [], m₃, rfl, rfl, Nat.zero_le _, rfl, by simpa using q⟩)
    rintro n s' ⟨h, tk, i, ys, m₃, rfl, rfl, hi, hln, st⟩
    have hE' : h.get? S = some (listOf vs.toArray ks) := st.keep _ _ hS
    rcases Nat.lt_or_ge i vs.length with hlt | hge
    · have hv : vs[i]? = some vs[i] := List.getElem?_eq_getElem hlt
      obtain ⟨d, hd', rv⟩ := readsAll_item RA hv
      rw [List.getElem?_map] at hd'
      obtain ⟨p, hp, rfl⟩ := Option.map_eq_some_iff.mp hd'
      obtain ⟨Ta, v1, mt, e1, hTa, rx⟩ := pair_open rv
      refine wpAny_pyNext_list_item (l := S) (i := i) (items := vs.toArray) (x := vs[i]) st.it ⟨_, hE', rfl, ks, rfl⟩ (by simp [hlt]) fun h2' it2 sb2 => ?_
      rw [e1]
      have kk2 : ∀ b ob, b ≠ I1 → h.get? b = some ob → h2'.get? b = some ob := fun b ob hb e => (sb2.2 b hb).trans e
      have st2 : CompSt s.heap h2' I1 S D C (i + 1) ys m₃ ((ps.take i).map (·.1)) := by
        obtain ⟨k, ho⟩ := st.acc
        exact ⟨keep_new st.keep ap.nI kk2, it2, ⟨k, kk2 _ _ (Ne.symm ap.ID) ho⟩, ns_at st.ns fun o e => kk2 _ o (Ne.symm ap.IC) e, readsAll_tk (tk_iter st.it kk2) st.rd⟩
      refine wpAny_letOwnedTupleGo_listiter (s := ⟨_, _, _, _, _⟩) it2 ?_
      refine kcp_assign (s := ⟨_, _, _, _, _⟩) hh (IsTup.keeps hTa st2.keep) (lookup_relabel_local hx) (lookup_relabel_local hy) (by simp [compEnvC, relabel, hkind]) st2.ns fun h3 tk3 hn3 k3 => ?_
      have kC : ∀ b ob, b ≠ C → h2'.get? b = some ob → h3.get? b = some ob := fun b ob hb e => k3 b ob hb e
      have st3 : CompSt s.heap h3 I1 S D C (i + 1) ys (fun z => if z = y then some (Value.str p.2 mt) else if z = x then some v1 else m₃ z) ((ps.take i).map (·.1)) := by
        obtain ⟨k, ho⟩ := st2.acc
        exact ⟨keep_new st2.keep ap.nC kC, iter_at st2.it fun o e => kC _ o ap.IC e, ⟨k, kC _ _ ap.DC ho⟩, hn3, readsAll_tk (tk_ns st2.ns kC) st2.rd⟩
      refine ldVarK (s := ⟨_, _, _, _, _⟩) hn3 (v := v1) (by simp [hne]) ?_ hkC (lookup_relabel_local hx) hd
      obtain ⟨k, hac⟩ := st3.acc
      refine wpAny_list_append_plain (s := ⟨_, _, _, _, _⟩) (items := ys.toArray) ⟨k, hac⟩ (fun h9 hl9 sb9 => ?_) (by rw [List.size_toArray, sizeLine_eq]; omega)
      have kk9 : ∀ b ob, b ≠ D → h3.get? b = some ob → h9.get? b = some ob := fun b ob hb e => (sb9.2 b hb).trans e
      have tk9 : TK h3 h9 := tk_cls hac (listOf_ne _ _) kk9
      obtain ⟨k9, hac9⟩ := hl9
      refine ⟨vs.length - (i + 1), by omega, h9, _, i + 1, ys ++ [v1], (fun z => if z = y then some (Value.str p.2 mt) else if z = x then some v1 else m₃ z), rfl, rfl, by omega, by rw [List.length_append, hln, List.length_singleton], ⟨keep_new st3.keep ap.nD kk9, iter_at st3.it fun o e => kk9 _ o ap.ID e, ⟨k9, by simpa using hac9⟩, ns_at st3.ns fun o e => kk9 _ o (Ne.symm ap.DC) e, ?_⟩⟩
      rw [take_snoc hp, List.map_append]
      exact readsAll_snoc (readsAll_tk tk9 st3.rd) (reads_tk' (TK.trans (Keep.tk st3.keep) tk9) rx)
    · refine wpAny_pyNext_list_end (l := S) (i := i) (items := vs.toArray) hh st.it ⟨_, hE', rfl, ks, rfl⟩ (by simp [hge]) fun h2' sb2 => ?_
      have kk2 : ∀ b ob, b ≠ I1 → h.get? b = some ob → h2'.get? b = some ob := fun b ob hb e => sb2 b ob hb e
      have e0 : ps.take i = ps := List.take_of_length_le (by omega)
      rw [e0] at st
      obtain ⟨k, ho⟩ := st.acc
      have hns := ns_at st.ns fun o e => kk2 _ o (Ne.symm ap.IC) e
      refine ⟨_, hns, fun h6 hs6 => ?_⟩
      have k6 : ∀ b ob, b ≠ C → h2'.get? b = some ob → h6.get? b = some ob := fun b ob hb e => (hs6.2 b hb).trans e
      exact done D h6 _ ys k (keep_new (keep_new st.keep ap.nI kk2) ap.nC k6) ap.nD (k6 _ _ ap.DC (kk2 _ _ (Ne.symm ap.ID) ho)) (readsAll_tk (TK.trans (tk_iter st.it kk2) (tk_ns hns k6)) st.rd)
  exact codeAny_compStart_list (loop _ rfl) (wpAny_pyIter_listiter (let ⟨_, q⟩ := st0; q.it) (loop _ rfl))
theorem all : ∀ c : (World) × (Around) × (Value → Shared → Prop) × (Shared) × (Env) × (Str) × (Str) × (Pos) × (Pos) × (Pos) × (Pos) × (Nat) × (PySem.Expr) × (Scope) × (List (Str × Addr)) × (Pos) × (Value → Shared → Prop) × (Addr) × (Nat) × (List Value) × (List (PyData × Str)), Wk c.1 c.2.1 c.2.2.1 c.2.2.2.1 c.2.2.2.2.1 c.2.2.2.2.2.1 c.2.2.2.2.2.2.1 c.2.2.2.2.2.2.2.1 c.2.2.2.2.2.2.2.2.1 c.2.2.2.2.2.2.2.2.2.1 c.2.2.2.2.2.2.2.2.2.2.1 c.2.2.2.2.2.2.2.2.2.2.2.1 c.2.2.2.2.2.2.2.2.2.2.2.2.1 c.2.2.2.2.2.2.2.2.2.2.2.2.2.1 c.2.2.2.2.2.2.2.2.2.2.2.2.2.2.1 c.2.2.2.2.2.2.2.2.2.2.2.2.2.2.2.1 c.2.2.2.2.2.2.2.2.2.2.2.2.2.2.2.2.1 c.2.2.2.2.2.2.2.2.2.2.2.2.2.2.2.2.2.1 c.2.2.2.2.2.2.2.2.2.2.2.2.2.2.2.2.2.2.1 c.2.2.2.2.2.2.2.2.2.2.2.2.2.2.2.2.2.2.2.1 c.2.2.2.2.2.2.2.2.2.2.2.2.2.2.2.2.2.2.2.2 := pickA_all (h := inhab) (p := fun c => Wk c.1 c.2.1 c.2.2.1 c.2.2.2.1 c.2.2.2.2.1 c.2.2.2.2.2.1 c.2.2.2.2.2.2.1 c.2.2.2.2.2.2.2.1 c.2.2.2.2.2.2.2.2.1 c.2.2.2.2.2.2.2.2.2.1 c.2.2.2.2.2.2.2.2.2.2.1 c.2.2.2.2.2.2.2.2.2.2.2.1 c.2.2.2.2.2.2.2.2.2.2.2.2.1 c.2.2.2.2.2.2.2.2.2.2.2.2.2.1 c.2.2.2.2.2.2.2.2.2.2.2.2.2.2.1 c.2.2.2.2.2.2.2.2.2.2.2.2.2.2.2.1 c.2.2.2.2.2.2.2.2.2.2.2.2.2.2.2.2.1 c.2.2.2.2.2.2.2.2.2.2.2.2.2.2.2.2.2.1 c.2.2.2.2.2.2.2.2.2.2.2.2.2.2.2.2.2.2.1 c.2.2.2.2.2.2.2.2.2.2.2.2.2.2.2.2.2.2.2.1 c.2.2.2.2.2.2.2.2.2.2.2.2.2.2.2.2.2.2.2.2) (by with_unfolding_all exact @here)
end compFst_n
theorem compFst {w : World} {A : Around} {E : Value → Shared → Prop} {s : Shared} {env : Env} {x : Str} {y : Str} {px : Pos} {py : Pos} {p0 : Pos} {tp : Pos} {kk : Nat} {iter : PySem.Expr} {scope : Scope} {cl : List (Str × Addr)} {pos : Pos} {Q : Value → Shared → Prop} {S : Addr} {ks : Nat} {vs : List Value} {ps : List (PyData × Str)} (hh : A.handled = none) (hclos : closureFor scope env = pure cl) (hcell : ∀ z ∈ scope.names, z.2 ≠ .cell) (hkind : scope.kind = .function) (hnames : ∀ z ∈ scope.names, z.2 = .local → scope.names.lookup z.1 = some .local) (hx : scope.names.lookup x = some .local) (hy : scope.names.lookup y = some .local) (hne : x ≠ y) (hs : ∀ x, foldedSetIterable iter env x = pure x) (hd : (x == ("__debug__" : Str)) = false) (hS : s.heap.get? S = some (listOf vs.toArray ks)) (RA : ReadsAll s.heap vs (ps.map pairD) []) (hz : vs.length ≤ 1000) (hit : wpAny (model PG w) A (eval iter env) (fun xv s₁ => xv = .ref S ∧ s₁ = s) E s) (done : ∀ D h' tk ws k, Keep s.heap h' → s.heap.get? D = none → h'.get? D = some (listOf ws.toArray k) → ReadsAll h' ws (ps.map (·.1)) [] → Q (.ref D) { s with heap := h', toks := tk }) :
    wpAny (model PG w) A (eval (.ListComp (.Name x p0) [⟨.Tuple [.Name x px, .Name y py] kk tp, iter, [], 0⟩] scope pos) env) Q E s :=
  compFst_n.all (w, A, E, s, env, x, y, px, py, p0, tp, kk, iter, scope, cl, pos, Q, S, ks, vs, ps)  hh hclos hcell hkind hnames hx hy hne hs hd hS RA hz hit done
section
variable {w : World} {A : Around} {E : Value → Shared → Prop} {s : Shared} {env : Env}
end
end Mine
namespace Mine
noncomputable def Rd1 (g : Heap) (Ts : List (Addr × Obj)) (v : Value) (d : PyData) : Prop := ∀ h, Keep g h → (∀ p ∈ Ts, h.get? p.1 = some p.2) → Reads h v d []
theorem rdUse {g h : Heap} {Ts news : List (Addr × Obj)} {L : Addr} {m : Str → Option Value} {v : Value} {d : PyData} (r : Rd1 g Ts v d) (F : Fr g L h m) (N : News g L h news) (hs : ∀ p ∈ Ts, p ∈ news) : Reads h v d [] := r h F.keep fun p hp => (N p (hs p hp)).1
theorem rdsUse {g h : Heap} {Ts news : List (Addr × Obj)} {L : Addr} {m : Str → Option Value} {vs : List Value} {ds : List PyData} (r : RdTs g Ts vs ds) (F : Fr g L h m) (N : News g L h news) (hs : ∀ p ∈ Ts, p ∈ news) : ReadsAll h vs ds [] := r h F.keep fun p hp => (N p (hs p hp)).1
theorem RdTs.get {g : Heap} {Ts : List (Addr × Obj)} {vs : List Value} {ds : List PyData} (r : RdTs g Ts vs ds) {h : Heap} (k : Keep g h) (kt : ∀ p ∈ Ts, h.get? p.1 = some p.2) {i : Nat} {v : Value} (hv : vs[i]? = some v) : ∃ d, ds[i]? = some d ∧ Rd1 g Ts v d := by
  obtain ⟨d, hd, _⟩ := readsAll_item (r h k kt) hv
  refine ⟨d, hd, fun h' k' kt' => ?_⟩
  obtain ⟨d', hd', r'⟩ := readsAll_item (r h' k' kt') hv
  rw [hd] at hd'; cases hd'
  exact r'
section
variable {w : World} {A : Around} {E : Value → Shared → Prop} {s : Shared} {g : Heap} {L : Addr} {m : Str → Option Value} {news Ts : List (Addr × Obj)} {v : Value} {d : PyData}
theorem inPap {Pw : Addr} {wp : List Value} {pd : List PyData} {kp : Nat} {b : Bool} {Q : Value → Shared → Prop} (F : Fr g L s.heap m) (N : News g L s.heap news) (hs : ∀ p ∈ Ts, p ∈ news) (hP : (Pw, listOf wp.toArray kp) ∈ news) (rp : RdTs g Ts wp pd) (rx : Rd1 g Ts v d) (hc : SeqAt.shaped (.list pd) = true) (hd : SeqAt.shaped d = true) (hu : A.units + 65 < cLine)
    (hb : (pd.any fun y => PyData.eqv y d) = b) (h : Q (.bool b) s) : wpAny (model PG w) A (compareOp .In v (.ref Pw)) Q E s :=
  SeqAt.in_list_reads (reads_list_at (N.get hP) rfl rfl (by simpa [PySem.W.listOf] using rdsUse rp F N hs)) (rdUse rx F N hs) (SeqAt.canLay_of_shaped hc) (SeqAt.canLay_of_shaped hd) (room_in_shaped hd hu) (by rw [hb]; exact h)
theorem notInPap {Pw : Addr} {wp : List Value} {pd : List PyData} {kp : Nat} {b : Bool} {Q : Value → Shared → Prop} (F : Fr g L s.heap m) (N : News g L s.heap news) (hs : ∀ p ∈ Ts, p ∈ news) (hP : (Pw, listOf wp.toArray kp) ∈ news) (rp : RdTs g Ts wp pd) (rx : Rd1 g Ts v d) (hc : SeqAt.shaped (.list pd) = true) (hd : SeqAt.shaped d = true) (hu : A.units + 65 < cLine)
    (hb : (pd.any fun y => PyData.eqv y d) = b) (h : Q (.bool (!b)) s) : wpAny (model PG w) A (compareOp .NotIn v (.ref Pw)) Q E s :=
  SeqAt.notIn_list_reads (reads_list_at (N.get hP) rfl rfl (by simpa [PySem.W.listOf] using rdsUse rp F N hs)) (rdUse rx F N hs) (SeqAt.canLay_of_shaped hc) (SeqAt.canLay_of_shaped hd) (room_in_shaped hd hu) (by rw [hb]; exact h)
theorem neSame {D T P D2 T2 P2 : Addr} {k k2 : Nat} {Q : Value → Shared → Prop} (F : Fr g L s.heap m) (N : News g L s.heap news) (hs : ∀ p ∈ Ts, p ∈ news) (hD : (D, listOf #[.ref T] k) ∈ news) (hD2 : (D2, listOf #[.ref T2] k2) ∈ news)
    (hT : (T, ({ cls := .type "tuple", data := .seq #[.ref P, v] } : Obj)) ∈ news) (hT2 : (T2, ({ cls := .type "tuple", data := .seq #[.ref P2, v] } : Obj)) ∈ news) (hP : (P, ({ cls := .type "tuple", data := .seq #[] } : Obj)) ∈ news) (hP2 : (P2, ({ cls := .type "tuple", data := .seq #[] } : Obj)) ∈ news)
    (rx : Rd1 g Ts v d) (hg : good 51 d) (hu : A.units + 64 < cLine) (h : Q (.bool false) s) : wpAny (model PG w) A (compareOp .NotEq (.ref D) (.ref D2)) Q E s := by
  have rv := rdUse rx F N hs
  have mk : ∀ {T P : Addr}, (T, ({ cls := .type "tuple", data := .seq #[.ref P, v] } : Obj)) ∈ news → (P, ({ cls := .type "tuple", data := .seq #[] } : Obj)) ∈ news → Reads s.heap (.ref T) (.tuple [.tuple [], d]) [] := fun hT hP =>
    .tuple (N.get hT) rfl rfl (ReadsAll.cons (as := []) (.tuple (N.get hP) rfl rfl .nil) (ReadsAll.cons (as := []) rv .nil))
  have c1 : PyData.canLay0 (.list [.tuple [.tuple [], d]]) = true := by simp [PyData.canLay0, PyData.canLayAll0, hg.1]
  have c2 : SeqAt.shaped (.list [.tuple [.tuple [], d]]) = true := by
    have := hg.2.1
    unfold SeqAt.shaped
    rw [c1]
    simp only [Bool.true_and, PyData.depth, PyData.depthAll]
    exact decide_eq_true (by omega)
  refine ne_dataH (reads_list_at (N.get hD) rfl rfl (by simpa [PySem.W.listOf] using ReadsAll.cons (as := []) (mk hT hP) .nil)) (reads_list_at (N.get hD2) rfl rfl (by simpa [PySem.W.listOf] using ReadsAll.cons (as := []) (mk hT2 hP2) .nil)) c2 c2 hu ?_
  rw [SeqAt.eqv_refl _ c1]
  exact h
theorem neSelf {Q : Value → Shared → Prop} (F : Fr g L s.heap m) (N : News g L s.heap news) (hs : ∀ p ∈ Ts, p ∈ news) (rx : Rd1 g Ts v d) (hd : SeqAt.shaped d = true) (hu : A.units + 64 < cLine) (h : Q (.bool false) s) : wpAny (model PG w) A (compareOp .NotEq v v) Q E s := by
  have rv := rdUse rx F N hs
  refine ne_dataH rv rv hd hd hu ?_
  rw [SeqAt.eqv_refl _ (SeqAt.canLay_of_shaped hd)]
  exact h
theorem neNilT {P P2 : Addr} {Q : Value → Shared → Prop} (h1 : IsTup s.heap P #[]) (h2 : IsTup s.heap P2 #[]) (hu : A.units + 64 < cLine) (h : Q (.bool false) s) : wpAny (model PG w) A (compareOp .NotEq (.ref P) (.ref P2)) Q E s := by
  obtain ⟨o1, a1, b1, n1, c1⟩ := h1
  obtain ⟨o2, a2, b2, n2, c2⟩ := h2
  exact ne_dataH (da := .tuple []) (db := .tuple []) (.tuple a1 b1 c1 .nil) (.tuple a2 b2 c2 .nil) (by decide) (by decide) hu h
theorem itemLst {value slice : PySem.Expr} {D : Addr} {ws : List Value} {k : Nat} {i : Int} {u : Tok} {Q : Value → Shared → Prop} (N : News g L s.heap news) (hD : (D, listOf ws.toArray k) ∈ news) (h0 : 0 ≤ i) (h1 : i < (ws.length : Int)) (hz : ws.length ≤ 1000) (h : ∀ v, ws[i.toNat]? = some v → Q v s)
    (hs : subscripted slice false (.ref D) (.int i u) = operate [.ref D, .int i u] (getItem (.ref D) (.int i u))) :
    wpAny (model PG w) A (subscriptTail value slice (.ref D) (.int i u)) Q E s := by
  have hl := N.isList hD
  have hlt : i.toNat < ws.length := by omega
  have hv : ws[i.toNat]? = some ws[i.toNat] := List.getElem?_eq_getElem hlt
  exact tail_any hl.typeIs slot_list_getitem.lookup (wpAny_getItem_list hl h0 (by omega) (by simpa using hv) (h _ hv)) hs
theorem itemPair0 {value slice : PySem.Expr} {Ta : Addr} {x y : Value} {u : Tok} {Q : Value → Shared → Prop} (hT : IsTup s.heap Ta #[x, y]) (h : Q x s)
    (hs : subscripted slice false (.ref Ta) (.int 0 u) = operate [.ref Ta, .int 0 u] (getItem (.ref Ta) (.int 0 u))) :
    wpAny (model PG w) A (subscriptTail value slice (.ref Ta) (.int 0 u)) Q E s :=
  item_tupleT (l := [x, y]) hT (by decide) (by decide) (j := 0) (by rfl) rfl h hs
theorem addTupL {a T1 : Addr} {x : Value} {as : List PyData} {d2 : PyData} {Q : Value → Shared → Prop} (F : Fr g L s.heap m) (N : News g L s.heap news) (hs : ∀ p ∈ Ts, p ∈ news) (r1 : Rd1 g Ts (.ref a) (.tuple as)) (r2 : Rd1 g Ts x d2) (hT : (T1, ({ cls := .type "tuple", data := .seq #[x] } : Obj)) ∈ news) (hz : as.length ≤ 900)
    (h : ∀ y h', Fr g L h' m → News g L h' news → Reads h' y (.tuple (as ++ [d2])) [] → Q y { s with heap := h' }) : wpAny (model PG w) A (binaryOp .Add (.ref a) (.ref T1)) Q E s :=
  addTupR (rdUse r1 F N hs) (.tuple (N.get hT) rfl rfl (ReadsAll.cons (as := []) (rdUse r2 F N hs) .nil)) (by rw [List.length_singleton]; omega) fun y h' k r => h y h' (Keep.fr k F) (Keep.news k N) r
end
theorem rdFst {g h : Heap} {vs : List Value} {ps : List (PyData × Str)} (kg : Keep g h) (r : ReadsAll h vs (ps.map pairD) []) {i : Nat} {v : Value} (hv : vs[i]? = some v) :
    ∃ Ta x mt p, v = .ref Ta ∧ ps[i]? = some p ∧ (∀ h', Keep g h' → (∀ q ∈ tups g h, h'.get? q.1 = some q.2) → IsTup h' Ta #[x, .str p.2 mt]) ∧ Rd1 g (tups g h) x p.1 := by
  obtain ⟨d, hd, rv⟩ := readsAll_item r hv
  rw [List.getElem?_map] at hd
  obtain ⟨p, hp, rfl⟩ := Option.map_eq_some_iff.mp hd
  obtain ⟨Ta, x, mt, rfl, ⟨o, ho, hc, n, hdd⟩, rx⟩ := pair_open rv
  exact ⟨Ta, x, mt, p, rfl, hp, fun h' k kt => ⟨o, tk_tups k kt kg _ _ _ _ hc hdd ho, hc, n, hdd⟩, fun h' k kt => reads_tk' (tk_tups k kt kg) rx⟩
end Mine
namespace Mine
local macro_rules | `(tactic| walk_at $s:str) => `(tactic| k_extra $s)
local macro_rules | `(tactic| k_ne) => `(tactic| k_extra "k_ne")
local macro_rules | `(tactic| k_all) => `(tactic| k_extra "k_all")
local macro_rules | `(tactic| k_inst) => `(tactic| k_extra "k_inst")
section
theorem reg_plain0 : True := by
  k_with_none
  k_with "go" => (repeat' ((fail_if_success (with_reducible show Exists _));(fail_if_success (with_reducible show _ ∧ Keeps _ _));(fail_if_success (with_reducible show wpAny _ _ (eval (PySem.Expr.ListComp _ _ _ _) _) _ _ _));(fail_if_success (with_reducible show wpAny _ _ (exec (Stmt.Assign _ (PySem.Expr.ListComp _ _ _ _) _) _) _ _ _));(fail_if_success (with_reducible show wpAny _ _ (exec (Stmt.While _ _ _ _) _) _ _ _));(fail_if_success (with_reducible show wpAny _ _ (exec (Stmt.For _ _ _ _ _) _) _ _ _));first | (k_unfold;(try dsimp only)) | walk1 | (dsimp only;walk1) | fail "no step"))
  k_with "reads" => (first | with_reducible assumption | exact Reads.keeps (Fr.keep (by k_asm)) (by with_reducible assumption) | (refine' readsNew1 ?rF_r1 ?rN_r1 ?rM_r1 ?rR_r1;(case rF_r1 => k_asm);(case rN_r1 => k_asm);(case rM_r1 => k_mem);(case rR_r1 => with_reducible assumption)))
  k_with "call builtin:len" => ((k_here;(with_reducible show wpAny _ _ (call _ [Value.ref _]) _ _ _);k_dflt (refine' lenLst ?N_r2 ?m_r2 ?z_r2 ?_;(case N_r2 => k_asm);(case m_r2 => k_mem);(case z_r2 => first | assumption | omega);k_whole);intro _ _))
  k_with "call builtin:len" => ((k_here;k_dflt (refine' lenTup ?R_r3 ?t_r3 ?z_r3 ?_;(case R_r3 => walk_at "reads");(case t_r3 => assumption);(case z_r3 => first | assumption | omega);k_whole);intro _ _))
  k_with "call builtin:list.pop" => ((k_here;(with_reducible show wpAny _ _ (call _ [Value.ref _]) _ _ _);k_dflt (refine' popLst ?F_r4 ?N_r4 ?U_r4 ?z_r4 ?_;(case F_r4 => k_asm);(case N_r4 => k_asm);(case U_r4 => k_upd);(case z_r4 => first | assumption | omega);k_whole);intro qh' qF' qN'))
  k_with "call builtin:isinstance" => ((k_here;(with_reducible show wpAny _ _ (call _ [_, Value.type "tuple"]) _ _ _);k_dflt (refine' isiTup ?R_r5 ?_ ?_;(case R_r5 => walk_at "reads"));all_goals (intro qhI;(try intro qtkI);(try dsimp only))))
  k_with "call builtin:isinstance" => ((k_here;(with_reducible show wpAny _ _ (call _ [_, Value.type "str"]) _ _ _);k_dflt (refine' isiStr ?R_r6 ?_ ?_;(case R_r6 => walk_at "reads"));all_goals (first | (intro qxI qtI qeI qhI qlI;(try subst qeI);(try dsimp only)) | (intro qhI qtkI;(try dsimp only)))))
  k_with "subscriptTail" => ((k_here;(with_reducible show wpAny _ _ (subscriptTail _ _ _ (Value.int 0 _)) _ _ _);k_dflt (refine' itemB0 ?F_r7 ?R_r7 ?t_r7 ?k_r7 ?_ ?s_r7;(case F_r7 => k_asm);(case R_r7 => with_reducible assumption);(case t_r7 => assumption);(case k_r7 => omega);(case s_r7 => intro _;with_unfolding_all rfl);k_whole);intro qvI qrI;(try dsimp only at qrI);(try (obtain ⟨qtI, qeI⟩ := reads_strE qrI (by with_reducible assumption);subst qeI));(try dsimp only)))
  k_with "subscriptTail" => ((k_here;(with_reducible show wpAny _ _ (subscriptTail _ _ _ (Value.int 1 _)) _ _ _);k_dflt (refine' itemB1 ?F_r8 ?R_r8 ?t_r8 ?k_r8 ?_ ?s_r8;(case F_r8 => k_asm);(case R_r8 => with_reducible assumption);(case t_r8 => assumption);(case k_r8 => omega);(case s_r8 => intro _;with_unfolding_all rfl);k_whole);intro qvI qrI;(try dsimp only at qrI);(try (obtain ⟨qtI, qeI⟩ := reads_strE qrI (by with_reducible assumption);subst qeI));(try dsimp only)))
  k_with "subscriptTail" => ((k_here;(with_reducible show wpAny _ _ (subscriptTail _ _ _ (Value.int 2 _)) _ _ _);k_dflt (refine' itemB2 ?F_r9 ?R_r9 ?t_r9 ?k_r9 ?_ ?s_r9;(case F_r9 => k_asm);(case R_r9 => with_reducible assumption);(case t_r9 => assumption);(case k_r9 => omega);(case s_r9 => intro _;with_unfolding_all rfl);k_whole);intro qvI qrI;(try dsimp only at qrI);(try (obtain ⟨qtI, qeI⟩ := reads_strE qrI (by with_reducible assumption);subst qeI));(try dsimp only)))
  k_with "subscriptTail" => ((k_here;(with_reducible show wpAny _ _ (subscriptTail _ (PySem.Expr.Slice none (some _) none _) (Value.str _ _) _) _ _ _);(k_dflt (refine strCut1 (s := ⟨_, _, _, _, _⟩) (by assumption) (by assumption) ?hsz_r10 ?_));(case hsz_r10 => (rw [sizeLine_eq];omega));intro qh' qt' qk' qF' qN' qkK;(try dsimp only at qkK);(try dsimp only)))
  k_with "subscriptTail Name Slice str ref" => ((k_here;(with_reducible show wpAny _ _ (subscriptTail _ (PySem.Expr.Slice none (some _) none _) (Value.str _ _) _) _ _ _);(k_dflt (refine strCut1 (s := ⟨_, _, _, _, _⟩) (by assumption) (by assumption) ?hsz_r11 ?_));(case hsz_r11 => (rw [sizeLine_eq];omega));intro qh' qt' qk' qF' qN' qkK;(try dsimp only at qkK);(try dsimp only)))
  k_with "subscriptTail" => ((k_here;(with_reducible show wpAny _ _ (subscriptTail _ (PySem.Expr.Slice (some _) none none _) _ (Value.ref _)) _ _ _);(k_dflt (refine' sliceTup1 (s := ⟨_, _, _, _, _⟩) ?F_r12 ?N_r12 ?R_r12 ?t_r12 ?k_r12 ?z_r12 ?_ ?hs_r12 ?hg_r12;(case F_r12 => k_asm);(case N_r12 => k_asm);(case R_r12 => with_reducible assumption);(case t_r12 => assumption);(case k_r12 => omega);(case z_r12 => omega);(case hs_r12 => intro _;with_unfolding_all rfl);(case hg_r12 => intro _ _;with_unfolding_all rfl)));intro qD' qh' qvs' qF' qN' qR' ql1 qe1;(try k_lt ql1);(try dsimp only)))
  k_with "call builtin:list.extend" => ((k_here;(k_dflt (refine' extLst ?F_r13 ?N_r13 ?b_r13 ?U_r13 ?z_r13 ?_;(case F_r13 => k_asm);(case N_r13 => k_asm);(case b_r13 => k_mem);(case U_r13 => intro qk9;k_upd);(case z_r13 => omega)));intro qh' qk' qF' qN';(try dsimp only)))
  k_with "good" => (first | exact good_shaped (by assumption) (by omega) | exact good_shaped (good_filter (by assumption)) (by omega))
  k_with "units" => (first | exact addLt (by assumption) (by decide) | exact addLt1 (c := 3) (by assumption) (by decide) | exact addLt1 (c := 1) (by assumption) (by decide) | exact addLt2 (c := 3) (d := 1) (by assumption) (by decide) | exact addLt2 (c := 3) (d := 3) (by assumption) (by decide) | omega | ((try simp only [Around.deeper_units, units_in1]);omega))
  k_with "compareOp NotEq ref ref" => ((k_here;(with_reducible show wpAny _ _ (compareOp CmpOp.NotEq (Value.ref _) (Value.ref _)) _ _ _);k_dflt (refine' neNil ?F_r16 ?N_r16 ?E_r16 ?RA_r16 ?D_r16 ?a_r16 ?u_r16 ?_;(case F_r16 => k_asm);(case N_r16 => k_asm);(case E_r16 => k_mem);(case D_r16 => k_mem);(case RA_r16 => with_reducible assumption);(case a_r16 => walk_at "good");(case u_r16 => walk_at "units");k_whole);(try dsimp only)))
  k_with "compareOp Eq ref ref" => ((k_here;(with_reducible show wpAny _ _ (compareOp CmpOp.Eq (Value.ref _) (Value.ref _)) _ _ _);k_dflt (refine' eqNil ?F_r17 ?N_r17 ?E_r17 ?RA_r17 ?D_r17 ?a_r17 ?u_r17 ?_;(case F_r17 => k_asm);(case N_r17 => k_asm);(case E_r17 => k_mem);(case D_r17 => k_mem);(case RA_r17 => with_reducible assumption);(case a_r17 => walk_at "good");(case u_r17 => walk_at "units");k_whole);(try dsimp only)))
  k_with "call type:set" => ((k_here;(with_reducible show wpAny _ _ (call (Value.type "set") [Value.ref _]) _ _ _);k_dflt (refine' setStrs ?hh_r18 ?F_r18 ?N_r18 ?D_r18 ?S_r18 ?z_r18 ?_;(case hh_r18 => assumption);(case F_r18 => k_asm);(case N_r18 => k_asm);(case D_r18 => k_mem);(case S_r18 => with_reducible assumption);(case z_r18 => with_reducible assumption));intro qD' qh' qo' qtk' qF' qN' ql1 qsO;(try k_lt ql1);(try dsimp only)))
  k_with "call builtin:sorted" => ((k_here;(with_reducible show wpAny _ _ (call (Value.builtin "sorted") [Value.ref _]) _ _ _);k_dflt (refine' sortedSet ?hh_r19 ?F_r19 ?N_r19 ?D_r19 ?S_r19 ?z_r19 ?_;(case hh_r19 => assumption);(case F_r19 => k_asm);(case N_r19 => k_asm);(case D_r19 => k_mem);(case S_r19 => with_reducible assumption);(case z_r19 => with_reducible assumption));intro qD' qh' qtk' qdr' qvs' qss' qk' qF' qN' ql1 qsA qpA qsS;(try k_lt ql1);(try dsimp only)))
  k_with "compareOp Eq ref ref" => ((k_here;(with_reducible show wpAny _ _ (compareOp CmpOp.Eq (Value.ref _) (Value.ref _)) _ _ _);k_dflt (refine' eqNames ?F_r20 ?N_r20 ?D_r20 ?E_r20 ?SD_r20 ?SE_r20 ?p_r20 ?s_r20 ?ok_r20 ?z_r20 ?u_r20 ?_;(case F_r20 => k_asm);(case N_r20 => k_asm);(case D_r20 => k_mem);(case E_r20 => k_mem);(case SD_r20 => with_reducible assumption);(case SE_r20 => with_reducible assumption);(case p_r20 => with_reducible assumption);(case s_r20 => with_reducible assumption);(case ok_r20 => with_reducible assumption);(case z_r20 => with_reducible assumption);(case u_r20 => walk_at "units");k_whole);(try dsimp only)))
  k_with "room" => (first | exact addLt (by assumption) (by decide) | exact addLt1 (c := 1) (by assumption) (by decide) | exact addLt2 (c := 1) (d := 1) (by assumption) (by decide) | omega | ((try simp only [depth_deeper, depth_in1]);omega))
  k_with "unpackItems ref" => ((k_here;k_dflt (refine' unpackTup ?F_r22 ?N_r22 ?hh_r22 ?ht_r22 ?hn_r22 ?_;(case F_r22 => k_asm);(case N_r22 => k_asm);(case hh_r22 => assumption);(case ht_r22 => kun_tup);(case hn_r22 => exact rfl);k_whole);intro qh' qF' qN' qkK;(try dsimp only)))
  k_with "go2" => (repeat' ((fail_if_success (with_reducible show Exists _));(fail_if_success (with_reducible show _ ∧ Keeps _ _));(fail_if_success (with_reducible show wpAny _ _ (eval (PySem.Expr.ListComp _ _ _ _) _) _ _ _));(fail_if_success (with_reducible show wpAny _ _ (exec (Stmt.Assign _ (PySem.Expr.ListComp _ _ _ _) _) _) _ _ _));(fail_if_success (with_reducible show wpAny _ _ (exec (Stmt.For _ _ _ _ _) _) _ _ _));first | (k_unfold;(try dsimp only)) | walk1 | (dsimp only;walk1) | fail "no step"))
  k_with "assign Tuple" => ((k_here;k_dflt (refine' asgPair ?F_r24 ?N_r24 ?hh_r24 ?ht_r24 ?_;(case F_r24 => k_asm);(case N_r24 => k_asm);(case hh_r24 => assumption);(case ht_r24 => kun_tup);k_whole);intro qh' qF' qN' qkK;(try dsimp only)))
  k_with "go3" => (repeat' ((fail_if_success (with_reducible show Exists _));(fail_if_success (with_reducible show _ ∧ Keeps _ _));(fail_if_success (with_reducible show wpAny _ _ (exec (Stmt.Assign _ (PySem.Expr.ListComp _ _ _ _) _) _) _ _ _));(fail_if_success (with_reducible show wpAny _ _ (exec (Stmt.For _ _ _ _ _) _) _ _ _));first | (k_unfold;(try dsimp only)) | walk1 | (dsimp only;walk1) | fail "no step"))
  k_with "call type:enumerate" => ((k_here;(with_reducible show wpAny _ _ (call (Value.type "enumerate") [Value.ref _]) _ _ _);k_dflt (refine' enumT ?F_r26 ?N_r26 ?m_r26 ?_;(case F_r26 => k_asm);(case N_r26 => k_asm);(case m_r26 => k_mem));intro qe qh' qF' qN' qkE;(try dsimp only)))
  k_with "go4" => (repeat' ((fail_if_success (with_reducible show Exists _));(fail_if_success (with_reducible show _ ∧ Keeps _ _));(fail_if_success (with_reducible show wpAny _ _ (eval (PySem.Expr.ListComp _ _ _ _) _) _ _ _));(fail_if_success (with_reducible show wpAny _ _ (exec (Stmt.Assign _ (PySem.Expr.ListComp _ _ _ _) _) _) _ _ _));first | (k_unfold;(try dsimp only)) | walk1 | (dsimp only;walk1) | fail "no step"))
  k_with "k_ne" => ((refine neN ?_;(try dsimp only);first | assumption | exact Ne.symm (by assumption) | exact Nat.ne_of_lt (by assumption) | exact Nat.ne_of_gt (by assumption) | exact (And.left (by assumption)) | exact (Ne.symm (And.left (by assumption))) | exact (Nat.ne_of_lt (And.left (by assumption))) | exact (Nat.ne_of_gt (And.left (by assumption))) | exact (And.left (And.right (by assumption))) | exact (Ne.symm (And.left (And.right (by assumption)))) | exact (Nat.ne_of_lt (And.left (And.right (by assumption)))) | exact (Nat.ne_of_gt (And.left (And.right (by assumption)))) | exact (And.right (by assumption)) | exact (Ne.symm (And.right (by assumption))) | exact (Nat.ne_of_lt (And.right (by assumption))) | exact (Nat.ne_of_gt (And.right (by assumption))) | exact (And.left (And.right (And.right (by assumption)))) | exact (Ne.symm (And.left (And.right (And.right (by assumption))))) | exact (Nat.ne_of_lt (And.left (And.right (And.right (by assumption))))) | exact (Nat.ne_of_gt (And.left (And.right (And.right (by assumption))))) | exact (And.right (And.right (by assumption))) | exact (Ne.symm (And.right (And.right (by assumption)))) | exact (Nat.ne_of_lt (And.right (And.right (by assumption)))) | exact (Nat.ne_of_gt (And.right (And.right (by assumption)))) | exact (And.left (And.right (And.right (And.right (by assumption))))) | exact (Ne.symm (And.left (And.right (And.right (And.right (by assumption)))))) | exact (Nat.ne_of_lt (And.left (And.right (And.right (And.right (by assumption)))))) | exact (Nat.ne_of_gt (And.left (And.right (And.right (And.right (by assumption)))))) | exact (And.right (And.right (And.right (by assumption)))) | exact (Ne.symm (And.right (And.right (And.right (by assumption))))) | exact (Nat.ne_of_lt (And.right (And.right (And.right (by assumption))))) | exact (Nat.ne_of_gt (And.right (And.right (And.right (by assumption))))) | exact (And.left (And.right (And.right (And.right (And.right (by assumption)))))) | exact (Ne.symm (And.left (And.right (And.right (And.right (And.right (by assumption))))))) | exact (Nat.ne_of_lt (And.left (And.right (And.right (And.right (And.right (by assumption))))))) | exact (Nat.ne_of_gt (And.left (And.right (And.right (And.right (And.right (by assumption))))))) | exact (And.right (And.right (And.right (And.right (by assumption))))) | exact (Ne.symm (And.right (And.right (And.right (And.right (by assumption)))))) | exact (Nat.ne_of_lt (And.right (And.right (And.right (And.right (by assumption)))))) | exact (Nat.ne_of_gt (And.right (And.right (And.right (And.right (by assumption)))))) | exact (And.left (And.right (And.right (And.right (And.right (And.right (by assumption))))))) | exact (Ne.symm (And.left (And.right (And.right (And.right (And.right (And.right (by assumption)))))))) | exact (Nat.ne_of_lt (And.left (And.right (And.right (And.right (And.right (And.right (by assumption)))))))) | exact (Nat.ne_of_gt (And.left (And.right (And.right (And.right (And.right (And.right (by assumption)))))))) | exact (And.right (And.right (And.right (And.right (And.right (by assumption)))))) | exact (Ne.symm (And.right (And.right (And.right (And.right (And.right (by assumption))))))) | exact (Nat.ne_of_lt (And.right (And.right (And.right (And.right (And.right (by assumption))))))) | exact (Nat.ne_of_gt (And.right (And.right (And.right (And.right (And.right (by assumption))))))) | exact (And.left (And.right (And.right (And.right (And.right (And.right (And.right (by assumption)))))))) | exact (Ne.symm (And.left (And.right (And.right (And.right (And.right (And.right (And.right (by assumption))))))))) | exact (Nat.ne_of_lt (And.left (And.right (And.right (And.right (And.right (And.right (And.right (by assumption))))))))) | exact (Nat.ne_of_gt (And.left (And.right (And.right (And.right (And.right (And.right (And.right (by assumption))))))))) | exact (And.right (And.right (And.right (And.right (And.right (And.right (by assumption))))))) | exact (Ne.symm (And.right (And.right (And.right (And.right (And.right (And.right (by assumption)))))))) | exact (Nat.ne_of_lt (And.right (And.right (And.right (And.right (And.right (And.right (by assumption)))))))) | exact (Nat.ne_of_gt (And.right (And.right (And.right (And.right (And.right (And.right (by assumption)))))))) | omega))
  trivial
namespace plain_ok_n
noncomputable def Wk (w : World) (mean : ExcName → Option Value) (mg : Str → Option Value) (mb : Str → Option Value) (s : Shared) (v : Value) (d : PyData) (A : Around) (base : Heap) (outer : List Env) (L' : Addr) (h₁ : Heap) : Prop := ∀  (R : Reads s.heap v d []) (hsz : sz d ≤ 1000), EntP (PostF0 s (fun _ r => r = .bool (plainB d))) w mean mg mb s A base outer L' h₁ 1 100 [(Str.ofString "thing", v)] (envAt 85 L') (stAt 85)
theorem inhab : Nonempty ((World) × (ExcName → Option Value) × (Str → Option Value) × (Str → Option Value) × (Shared) × (Value) × (PyData) × (Around) × (Heap) × (List Env) × (Addr) × (Heap)) := ⟨((aWorld 1), (fun _ => none), (fun _ => none), (fun _ => none), ({}), (.none), (.none), ({}), ({}), ([]), (0), ({}))⟩
noncomputable def cc : (World) × (ExcName → Option Value) × (Str → Option Value) × (Str → Option Value) × (Shared) × (Value) × (PyData) × (Around) × (Heap) × (List Env) × (Addr) × (Heap) := pickA inhab fun c => Wk c.1 c.2.1 c.2.2.1 c.2.2.2.1 c.2.2.2.2.1 c.2.2.2.2.2.1 c.2.2.2.2.2.2.1 c.2.2.2.2.2.2.2.1 c.2.2.2.2.2.2.2.2.1 c.2.2.2.2.2.2.2.2.2.1 c.2.2.2.2.2.2.2.2.2.2.1 c.2.2.2.2.2.2.2.2.2.2.2
@[irreducible] noncomputable def w : World := cc.1
@[irreducible] noncomputable def mean : ExcName → Option Value := cc.2.1
@[irreducible] noncomputable def mg : Str → Option Value := cc.2.2.1
@[irreducible] noncomputable def mb : Str → Option Value := cc.2.2.2.1
@[irreducible] noncomputable def s : Shared := cc.2.2.2.2.1
@[irreducible] noncomputable def v : Value := cc.2.2.2.2.2.1
@[irreducible] noncomputable def d : PyData := cc.2.2.2.2.2.2.1
@[irreducible] noncomputable def A : Around := cc.2.2.2.2.2.2.2.1
@[irreducible] noncomputable def base : Heap := cc.2.2.2.2.2.2.2.2.1
@[irreducible] noncomputable def outer : List Env := cc.2.2.2.2.2.2.2.2.2.1
@[irreducible] noncomputable def L' : Addr := cc.2.2.2.2.2.2.2.2.2.2.1
@[irreducible] noncomputable def h₁ : Heap := cc.2.2.2.2.2.2.2.2.2.2.2
theorem here : Wk w mean mg mb s v d A base outer L' h₁ := by
  (have hFill : ∀ P : Params, (Mine.hd.heap_39 P = Mine.hd.heap_39 P) ∧ PySem.Challenge.rw_rg0113_01 = PySem.Challenge.rw_rg0113_01 := (by k_fill; exact fillK); clear hFill)
  unfold Wk
  intro  R hsz
  refine lit_at (f := 85) (L := L') (p := EntP (PostF0 s (fun _ r => r = .bool (plainB d))) w mean mg mb s A base outer L' h₁ 1 100 [(Str.ofString "thing", v)]) (by k_is) ?_
  intro hh hd hu F1 B1 X1 T1 N1
  (try dsimp only)
  walk_at "go"
  refine wpAny_While (codeAny_whileLoop (fun n s' => ∃ h' tk' ws ds m' k wl, s' = {s with heap := h', toks := tk'} ∧ Fr s.heap L' h' m' ∧ m' (Str.ofString "waiting") = some (.ref wl) ∧ News s.heap L' h' [(wl, listOf ws.toArray k)] ∧ ReadsAll s.heap ws ds [] ∧ n = szAll ds ∧ n ≤ 1000 ∧ plainAll ds = plainB d) ?_ _ ⟨_, _, [v], [d], _, _, _, rfl, by assumption, rfl, by assumption, ReadsAll.cons R .nil, rfl, Nat.le_trans (Nat.le_of_eq (by simp [szAll])) hsz, by simp [plainAll]⟩)
  rintro n s' ⟨h', tk', ws, ds, m', k, wl, rfl, F', hm, N', R', hn, hle, hpl⟩
  replace F' := frPin F' hm
  clear hm
  have hlen := readsAll_len R'
  have hlen2 := szAll_len ds
  have hws : ws.length ≤ 2 ^ 20 := by omega
  rcases List.eq_nil_or_concat ws with e | ⟨init, last, e⟩
  · subst e
    walk_at "go"
    all_goals (try dsimp only)
    cases R'
    exact endB0 (by assumption) hpl rfl
  · rw [List.concat_eq_append] at e
    subst e
    have hpos : (0 : Int) < ((init ++ [last]).length : Int) := by simp
    have hws' : init.length ≤ 1000 := by simp at hlen hlen2; omega
    obtain ⟨d1, d2, rfl, R1, R2⟩ := readsAll_split R'
    obtain ⟨d0, rfl, R3⟩ := readsAll_one R2
    have hs0 : sz d0 ≤ 1000 := by
      rw [szAll_app] at hn
      simp only [szAll] at hn; omega
    have hk : (kids d0).length ≤ 1000 := Nat.le_trans (len_kids d0) hs0
    have hk0 : sz (kid d0 0) ≤ 1000 := Nat.le_trans (sz_kid d0 0) hs0
    have hpf : plainB d0 = false → false = plainB d := fun h => by rw [← hpl, plainAll_app]; simp [plainAll, h]
    walk_at "go"
    all_goals (try dsimp only)
    all_goals first
      | exact endB0 (by assumption) (hpf (plain_notTup (by assumption))) rfl
      | exact endB0 (by assumption) (hpf (plain_none (by assumption))) rfl
      | exact endB0 (by assumption) (hpf (plain_notStr (by assumption))) rfl
      | exact endB0 (by assumption) (hpf (plain_odd (by assumption) (by assumption))) rfl
      | (refine' ⟨_, ?lt, _, _, _, d1 ++ (kids d0).drop 1, _, _, wl, rfl, ?F, ?m, cb_drop ?N ?S, readsAll_app R1 ?R, rfl, ?le, ?pl⟩
         case F => assumption
         case N => assumption
         case R => assumption
         case m => exact rfl
         case S => intro p hp; cases hp with | head => k_mem | tail _ h => cases h
         case lt => rw [hn]; exact sz_turn (by assumption)
         case le => exact Nat.le_trans (Nat.le_of_lt (sz_turn (by assumption))) (hn ▸ hle)
         case pl => rw [← hpl, plainAll_app, plainAll_app, ← plain_rest (by assumption) (by assumption)]; simp [plainAll])
theorem all : ∀ c : (World) × (ExcName → Option Value) × (Str → Option Value) × (Str → Option Value) × (Shared) × (Value) × (PyData) × (Around) × (Heap) × (List Env) × (Addr) × (Heap), Wk c.1 c.2.1 c.2.2.1 c.2.2.2.1 c.2.2.2.2.1 c.2.2.2.2.2.1 c.2.2.2.2.2.2.1 c.2.2.2.2.2.2.2.1 c.2.2.2.2.2.2.2.2.1 c.2.2.2.2.2.2.2.2.2.1 c.2.2.2.2.2.2.2.2.2.2.1 c.2.2.2.2.2.2.2.2.2.2.2 := pickA_all (h := inhab) (p := fun c => Wk c.1 c.2.1 c.2.2.1 c.2.2.2.1 c.2.2.2.2.1 c.2.2.2.2.2.1 c.2.2.2.2.2.2.1 c.2.2.2.2.2.2.2.1 c.2.2.2.2.2.2.2.2.1 c.2.2.2.2.2.2.2.2.2.1 c.2.2.2.2.2.2.2.2.2.2.1 c.2.2.2.2.2.2.2.2.2.2.2) (by with_unfolding_all exact @here)
end plain_ok_n
theorem plain_ok {w : World} {mean : ExcName → Option Value} {mg mb : Str → Option Value} {s : Shared} {v : Value} {d : PyData} (R : Reads s.heap v d []) (hsz : sz d ≤ 1000) :
    Pure0 w mean mg mb 85 [v] 1 100 s (fun _ r => r = .bool (plainB d)) := by
  (have hFill : ∀ P : Params, (Mine.hd.heap_39 P = Mine.hd.heap_39 P) ∧ PySem.Challenge.rw_rg0113_01 = PySem.Challenge.rw_rg0113_01 := (by k_fill; exact fillK); clear hFill)
  k_dflt (refine' pure_enter0 [(Str.ofString "thing", v)] ?k6 ?k7 ?k9 ?kB (Nat.le_refl 1) ?c5 ?c2 ?c3 ?c4 ?_; (case k6 => k_is); (case k7 => k_is); (case k9 => exact BindsTo.of_eq rfl); (case kB => exact locs rfl); (case c5 => decide); (case c2 => exact rfl); (case c3 => exact rfl); (case c4 => exact rfl))
  intro A base outer L' h₁ hh hd hu F1 B1 X1 T1 N1
  exact plain_ok_n.all (w, mean, mg, mb, s, v, d, A, base, outer, L', h₁)  R hsz hh hd hu F1 B1 X1 T1 N1
end
section
theorem reg_places0 : True := by
  k_with_none
  k_with "go" => (repeat' ((fail_if_success (with_reducible show Exists _));(fail_if_success (with_reducible show _ ∧ Keeps _ _));(fail_if_success (with_reducible show wpAny _ _ (eval (PySem.Expr.ListComp _ _ _ _) _) _ _ _));(fail_if_success (with_reducible show wpAny _ _ (exec (Stmt.Assign _ (PySem.Expr.ListComp _ _ _ _) _) _) _ _ _));(fail_if_success (with_reducible show wpAny _ _ (exec (Stmt.While _ _ _ _) _) _ _ _));(fail_if_success (with_reducible show wpAny _ _ (exec (Stmt.For _ _ _ _ _) _) _ _ _));first | (k_unfold;(try dsimp only)) | walk1 | (dsimp only;walk1) | fail "no step"))
  k_with "reads" => (first | with_reducible assumption | exact Reads.keeps (Fr.keep (by k_asm)) (by with_reducible assumption) | (refine' readsNew1 ?rF_r1 ?rN_r1 ?rM_r1 ?rR_r1;(case rF_r1 => k_asm);(case rN_r1 => k_asm);(case rM_r1 => k_mem);(case rR_r1 => with_reducible assumption)))
  k_with "call builtin:len" => ((k_here;(with_reducible show wpAny _ _ (call _ [Value.ref _]) _ _ _);k_dflt (refine' lenLst ?N_r2 ?m_r2 ?z_r2 ?_;(case N_r2 => k_asm);(case m_r2 => k_mem);(case z_r2 => first | assumption | omega);k_whole);intro _ _))
  k_with "call builtin:len" => ((k_here;k_dflt (refine' lenTup ?R_r3 ?t_r3 ?z_r3 ?_;(case R_r3 => walk_at "reads");(case t_r3 => assumption);(case z_r3 => first | assumption | omega);k_whole);intro _ _))
  k_with "call builtin:list.pop" => ((k_here;(with_reducible show wpAny _ _ (call _ [Value.ref _]) _ _ _);k_dflt (refine' popLst ?F_r4 ?N_r4 ?U_r4 ?z_r4 ?_;(case F_r4 => k_asm);(case N_r4 => k_asm);(case U_r4 => k_upd);(case z_r4 => first | assumption | omega);k_whole);intro qh' qF' qN'))
  k_with "call builtin:isinstance" => ((k_here;(with_reducible show wpAny _ _ (call _ [_, Value.type "tuple"]) _ _ _);k_dflt (refine' isiTup ?R_r5 ?_ ?_;(case R_r5 => walk_at "reads"));all_goals (intro qhI;(try intro qtkI);(try dsimp only))))
  k_with "call builtin:isinstance" => ((k_here;(with_reducible show wpAny _ _ (call _ [_, Value.type "str"]) _ _ _);k_dflt (refine' isiStr ?R_r6 ?_ ?_;(case R_r6 => walk_at "reads"));all_goals (first | (intro qxI qtI qeI qhI qlI;(try subst qeI);(try dsimp only)) | (intro qhI qtkI;(try dsimp only)))))
  k_with "subscriptTail" => ((k_here;(with_reducible show wpAny _ _ (subscriptTail _ _ _ (Value.int 0 _)) _ _ _);k_dflt (refine' itemB0 ?F_r7 ?R_r7 ?t_r7 ?k_r7 ?_ ?s_r7;(case F_r7 => k_asm);(case R_r7 => with_reducible assumption);(case t_r7 => assumption);(case k_r7 => omega);(case s_r7 => intro _;with_unfolding_all rfl);k_whole);intro qvI qrI;(try dsimp only at qrI);(try (obtain ⟨qtI, qeI⟩ := reads_strE qrI (by with_reducible assumption);subst qeI));(try dsimp only)))
  k_with "subscriptTail" => ((k_here;(with_reducible show wpAny _ _ (subscriptTail _ _ _ (Value.int 1 _)) _ _ _);k_dflt (refine' itemB1 ?F_r8 ?R_r8 ?t_r8 ?k_r8 ?_ ?s_r8;(case F_r8 => k_asm);(case R_r8 => with_reducible assumption);(case t_r8 => assumption);(case k_r8 => omega);(case s_r8 => intro _;with_unfolding_all rfl);k_whole);intro qvI qrI;(try dsimp only at qrI);(try (obtain ⟨qtI, qeI⟩ := reads_strE qrI (by with_reducible assumption);subst qeI));(try dsimp only)))
  k_with "subscriptTail" => ((k_here;(with_reducible show wpAny _ _ (subscriptTail _ _ _ (Value.int 2 _)) _ _ _);k_dflt (refine' itemB2 ?F_r9 ?R_r9 ?t_r9 ?k_r9 ?_ ?s_r9;(case F_r9 => k_asm);(case R_r9 => with_reducible assumption);(case t_r9 => assumption);(case k_r9 => omega);(case s_r9 => intro _;with_unfolding_all rfl);k_whole);intro qvI qrI;(try dsimp only at qrI);(try (obtain ⟨qtI, qeI⟩ := reads_strE qrI (by with_reducible assumption);subst qeI));(try dsimp only)))
  k_with "subscriptTail" => ((k_here;(with_reducible show wpAny _ _ (subscriptTail _ (PySem.Expr.Slice none (some _) none _) (Value.str _ _) _) _ _ _);(k_dflt (refine strCut1 (s := ⟨_, _, _, _, _⟩) (by assumption) (by assumption) ?hsz_r10 ?_));(case hsz_r10 => (rw [sizeLine_eq];omega));intro qh' qt' qk' qF' qN' qkK;(try dsimp only at qkK);(try dsimp only)))
  k_with "subscriptTail Name Slice str ref" => ((k_here;(with_reducible show wpAny _ _ (subscriptTail _ (PySem.Expr.Slice none (some _) none _) (Value.str _ _) _) _ _ _);(k_dflt (refine strCut1 (s := ⟨_, _, _, _, _⟩) (by assumption) (by assumption) ?hsz_r11 ?_));(case hsz_r11 => (rw [sizeLine_eq];omega));intro qh' qt' qk' qF' qN' qkK;(try dsimp only at qkK);(try dsimp only)))
  k_with "subscriptTail" => ((k_here;(with_reducible show wpAny _ _ (subscriptTail _ (PySem.Expr.Slice (some _) none none _) _ (Value.ref _)) _ _ _);(k_dflt (refine' sliceTup1 (s := ⟨_, _, _, _, _⟩) ?F_r12 ?N_r12 ?R_r12 ?t_r12 ?k_r12 ?z_r12 ?_ ?hs_r12 ?hg_r12;(case F_r12 => k_asm);(case N_r12 => k_asm);(case R_r12 => with_reducible assumption);(case t_r12 => assumption);(case k_r12 => omega);(case z_r12 => omega);(case hs_r12 => intro _;with_unfolding_all rfl);(case hg_r12 => intro _ _;with_unfolding_all rfl)));intro qD' qh' qvs' qF' qN' qR' ql1 qe1;(try k_lt ql1);(try dsimp only)))
  k_with "call builtin:list.extend" => ((k_here;(k_dflt (refine' extLst ?F_r13 ?N_r13 ?b_r13 ?U_r13 ?z_r13 ?_;(case F_r13 => k_asm);(case N_r13 => k_asm);(case b_r13 => k_mem);(case U_r13 => intro qk9;k_upd);(case z_r13 => omega)));intro qh' qk' qF' qN';(try dsimp only)))
  k_with "good" => (first | exact good_shaped (by assumption) (by omega) | exact good_shaped (good_filter (by assumption)) (by omega))
  k_with "units" => (first | exact addLt (by assumption) (by decide) | exact addLt1 (c := 3) (by assumption) (by decide) | exact addLt1 (c := 1) (by assumption) (by decide) | exact addLt2 (c := 3) (d := 1) (by assumption) (by decide) | exact addLt2 (c := 3) (d := 3) (by assumption) (by decide) | omega | ((try simp only [Around.deeper_units, units_in1]);omega))
  k_with "compareOp NotEq ref ref" => ((k_here;(with_reducible show wpAny _ _ (compareOp CmpOp.NotEq (Value.ref _) (Value.ref _)) _ _ _);k_dflt (refine' neNil ?F_r16 ?N_r16 ?E_r16 ?RA_r16 ?D_r16 ?a_r16 ?u_r16 ?_;(case F_r16 => k_asm);(case N_r16 => k_asm);(case E_r16 => k_mem);(case D_r16 => k_mem);(case RA_r16 => with_reducible assumption);(case a_r16 => walk_at "good");(case u_r16 => walk_at "units");k_whole);(try dsimp only)))
  k_with "compareOp Eq ref ref" => ((k_here;(with_reducible show wpAny _ _ (compareOp CmpOp.Eq (Value.ref _) (Value.ref _)) _ _ _);k_dflt (refine' eqNil ?F_r17 ?N_r17 ?E_r17 ?RA_r17 ?D_r17 ?a_r17 ?u_r17 ?_;(case F_r17 => k_asm);(case N_r17 => k_asm);(case E_r17 => k_mem);(case D_r17 => k_mem);(case RA_r17 => with_reducible assumption);(case a_r17 => walk_at "good");(case u_r17 => walk_at "units");k_whole);(try dsimp only)))
  k_with "call type:set" => ((k_here;(with_reducible show wpAny _ _ (call (Value.type "set") [Value.ref _]) _ _ _);k_dflt (refine' setStrs ?hh_r18 ?F_r18 ?N_r18 ?D_r18 ?S_r18 ?z_r18 ?_;(case hh_r18 => assumption);(case F_r18 => k_asm);(case N_r18 => k_asm);(case D_r18 => k_mem);(case S_r18 => with_reducible assumption);(case z_r18 => with_reducible assumption));intro qD' qh' qo' qtk' qF' qN' ql1 qsO;(try k_lt ql1);(try dsimp only)))
  k_with "call builtin:sorted" => ((k_here;(with_reducible show wpAny _ _ (call (Value.builtin "sorted") [Value.ref _]) _ _ _);k_dflt (refine' sortedSet ?hh_r19 ?F_r19 ?N_r19 ?D_r19 ?S_r19 ?z_r19 ?_;(case hh_r19 => assumption);(case F_r19 => k_asm);(case N_r19 => k_asm);(case D_r19 => k_mem);(case S_r19 => with_reducible assumption);(case z_r19 => with_reducible assumption));intro qD' qh' qtk' qdr' qvs' qss' qk' qF' qN' ql1 qsA qpA qsS;(try k_lt ql1);(try dsimp only)))
  k_with "compareOp Eq ref ref" => ((k_here;(with_reducible show wpAny _ _ (compareOp CmpOp.Eq (Value.ref _) (Value.ref _)) _ _ _);k_dflt (refine' eqNames ?F_r20 ?N_r20 ?D_r20 ?E_r20 ?SD_r20 ?SE_r20 ?p_r20 ?s_r20 ?ok_r20 ?z_r20 ?u_r20 ?_;(case F_r20 => k_asm);(case N_r20 => k_asm);(case D_r20 => k_mem);(case E_r20 => k_mem);(case SD_r20 => with_reducible assumption);(case SE_r20 => with_reducible assumption);(case p_r20 => with_reducible assumption);(case s_r20 => with_reducible assumption);(case ok_r20 => with_reducible assumption);(case z_r20 => with_reducible assumption);(case u_r20 => walk_at "units");k_whole);(try dsimp only)))
  k_with "room" => (first | exact addLt (by assumption) (by decide) | exact addLt1 (c := 1) (by assumption) (by decide) | exact addLt2 (c := 1) (d := 1) (by assumption) (by decide) | omega | ((try simp only [depth_deeper, depth_in1]);omega))
  k_with "call ref" => ((k_here;k_dflt (refine' plain_ok ?R_r22 ?z_r22 _ _ _ _ _ _ _ _ _ _ ?h1_r22 ?h2_r22 ?h3_r22 ?h4_r22 ?h5_r22 ?h6_r22 ?B_r22 ?F_r22 ?X_r22 ?T_r22 ?_;(case R_r22 => walk_at "reads");(case z_r22 => first | assumption | omega | (simp only [sz, szAll];omega));(case h1_r22 => assumption);(case h2_r22 => first | exact Around.frames_deeper (Below.stack (by assumption)) | assumption);(case h3_r22 => exact rfl);(case h4_r22 => exact rfl);(case h5_r22 => walk_at "room");(case h6_r22 => walk_at "units");(case B_r22 => assumption);(case F_r22 => assumption);(case X_r22 => assumption);(case T_r22 => assumption));intro qv9 qh' qtk' qkK;(try dsimp only at qkK);(rename News _ _ _ _ => qN9);(have qN' := Keep.news qkK qN9);(rename Fr _ _ _ _ => qF9);(have qF9k := fun (_ : True) => Keep.fr qkK qF9);intro qhF' qhP';(have qF' := qF9k True.intro);clear qF9k;(try subst qhP');(try dsimp only)))
  k_with "unpackItems ref" => ((k_here;k_dflt (refine' unpackTup ?F_r23 ?N_r23 ?hh_r23 ?ht_r23 ?hn_r23 ?_;(case F_r23 => k_asm);(case N_r23 => k_asm);(case hh_r23 => assumption);(case ht_r23 => kun_tup);(case hn_r23 => exact rfl);k_whole);intro qh' qF' qN' qkK;(try dsimp only)))
  k_with "go2" => (repeat' ((fail_if_success (with_reducible show Exists _));(fail_if_success (with_reducible show _ ∧ Keeps _ _));(fail_if_success (with_reducible show wpAny _ _ (eval (PySem.Expr.ListComp _ _ _ _) _) _ _ _));(fail_if_success (with_reducible show wpAny _ _ (exec (Stmt.Assign _ (PySem.Expr.ListComp _ _ _ _) _) _) _ _ _));(fail_if_success (with_reducible show wpAny _ _ (exec (Stmt.For _ _ _ _ _) _) _ _ _));first | (k_unfold;(try dsimp only)) | walk1 | (dsimp only;walk1) | fail "no step"))
  k_with "assign Tuple" => ((k_here;k_dflt (refine' asgPair ?F_r25 ?N_r25 ?hh_r25 ?ht_r25 ?_;(case F_r25 => k_asm);(case N_r25 => k_asm);(case hh_r25 => assumption);(case ht_r25 => kun_tup);k_whole);intro qh' qF' qN' qkK;(try dsimp only)))
  k_with "go3" => (repeat' ((fail_if_success (with_reducible show Exists _));(fail_if_success (with_reducible show _ ∧ Keeps _ _));(fail_if_success (with_reducible show wpAny _ _ (exec (Stmt.Assign _ (PySem.Expr.ListComp _ _ _ _) _) _) _ _ _));(fail_if_success (with_reducible show wpAny _ _ (exec (Stmt.For _ _ _ _ _) _) _ _ _));first | (k_unfold;(try dsimp only)) | walk1 | (dsimp only;walk1) | fail "no step"))
  k_with "call type:enumerate" => ((k_here;(with_reducible show wpAny _ _ (call (Value.type "enumerate") [Value.ref _]) _ _ _);k_dflt (refine' enumT ?F_r27 ?N_r27 ?m_r27 ?_;(case F_r27 => k_asm);(case N_r27 => k_asm);(case m_r27 => k_mem));intro qe qh' qF' qN' qkE;(try dsimp only)))
  k_with "go4" => (repeat' ((fail_if_success (with_reducible show Exists _));(fail_if_success (with_reducible show _ ∧ Keeps _ _));(fail_if_success (with_reducible show wpAny _ _ (eval (PySem.Expr.ListComp _ _ _ _) _) _ _ _));(fail_if_success (with_reducible show wpAny _ _ (exec (Stmt.Assign _ (PySem.Expr.ListComp _ _ _ _) _) _) _ _ _));first | (k_unfold;(try dsimp only)) | walk1 | (dsimp only;walk1) | fail "no step"))
  k_with "k_ne" => ((refine neN ?_;(try dsimp only);first | assumption | exact Ne.symm (by assumption) | exact Nat.ne_of_lt (by assumption) | exact Nat.ne_of_gt (by assumption) | exact (And.left (by assumption)) | exact (Ne.symm (And.left (by assumption))) | exact (Nat.ne_of_lt (And.left (by assumption))) | exact (Nat.ne_of_gt (And.left (by assumption))) | exact (And.left (And.right (by assumption))) | exact (Ne.symm (And.left (And.right (by assumption)))) | exact (Nat.ne_of_lt (And.left (And.right (by assumption)))) | exact (Nat.ne_of_gt (And.left (And.right (by assumption)))) | exact (And.right (by assumption)) | exact (Ne.symm (And.right (by assumption))) | exact (Nat.ne_of_lt (And.right (by assumption))) | exact (Nat.ne_of_gt (And.right (by assumption))) | exact (And.left (And.right (And.right (by assumption)))) | exact (Ne.symm (And.left (And.right (And.right (by assumption))))) | exact (Nat.ne_of_lt (And.left (And.right (And.right (by assumption))))) | exact (Nat.ne_of_gt (And.left (And.right (And.right (by assumption))))) | exact (And.right (And.right (by assumption))) | exact (Ne.symm (And.right (And.right (by assumption)))) | exact (Nat.ne_of_lt (And.right (And.right (by assumption)))) | exact (Nat.ne_of_gt (And.right (And.right (by assumption)))) | exact (And.left (And.right (And.right (And.right (by assumption))))) | exact (Ne.symm (And.left (And.right (And.right (And.right (by assumption)))))) | exact (Nat.ne_of_lt (And.left (And.right (And.right (And.right (by assumption)))))) | exact (Nat.ne_of_gt (And.left (And.right (And.right (And.right (by assumption)))))) | exact (And.right (And.right (And.right (by assumption)))) | exact (Ne.symm (And.right (And.right (And.right (by assumption))))) | exact (Nat.ne_of_lt (And.right (And.right (And.right (by assumption))))) | exact (Nat.ne_of_gt (And.right (And.right (And.right (by assumption))))) | exact (And.left (And.right (And.right (And.right (And.right (by assumption)))))) | exact (Ne.symm (And.left (And.right (And.right (And.right (And.right (by assumption))))))) | exact (Nat.ne_of_lt (And.left (And.right (And.right (And.right (And.right (by assumption))))))) | exact (Nat.ne_of_gt (And.left (And.right (And.right (And.right (And.right (by assumption))))))) | exact (And.right (And.right (And.right (And.right (by assumption))))) | exact (Ne.symm (And.right (And.right (And.right (And.right (by assumption)))))) | exact (Nat.ne_of_lt (And.right (And.right (And.right (And.right (by assumption)))))) | exact (Nat.ne_of_gt (And.right (And.right (And.right (And.right (by assumption)))))) | exact (And.left (And.right (And.right (And.right (And.right (And.right (by assumption))))))) | exact (Ne.symm (And.left (And.right (And.right (And.right (And.right (And.right (by assumption)))))))) | exact (Nat.ne_of_lt (And.left (And.right (And.right (And.right (And.right (And.right (by assumption)))))))) | exact (Nat.ne_of_gt (And.left (And.right (And.right (And.right (And.right (And.right (by assumption)))))))) | exact (And.right (And.right (And.right (And.right (And.right (by assumption)))))) | exact (Ne.symm (And.right (And.right (And.right (And.right (And.right (by assumption))))))) | exact (Nat.ne_of_lt (And.right (And.right (And.right (And.right (And.right (by assumption))))))) | exact (Nat.ne_of_gt (And.right (And.right (And.right (And.right (And.right (by assumption))))))) | exact (And.left (And.right (And.right (And.right (And.right (And.right (And.right (by assumption)))))))) | exact (Ne.symm (And.left (And.right (And.right (And.right (And.right (And.right (And.right (by assumption))))))))) | exact (Nat.ne_of_lt (And.left (And.right (And.right (And.right (And.right (And.right (And.right (by assumption))))))))) | exact (Nat.ne_of_gt (And.left (And.right (And.right (And.right (And.right (And.right (And.right (by assumption))))))))) | exact (And.right (And.right (And.right (And.right (And.right (And.right (by assumption))))))) | exact (Ne.symm (And.right (And.right (And.right (And.right (And.right (And.right (by assumption)))))))) | exact (Nat.ne_of_lt (And.right (And.right (And.right (And.right (And.right (And.right (by assumption)))))))) | exact (Nat.ne_of_gt (And.right (And.right (And.right (And.right (And.right (And.right (by assumption)))))))) | omega))
  trivial
noncomputable def pairOk (d : PyData) : Bool := isTup d && decide (((kids d).length : Int) = 2)
noncomputable def isQ : PyData → Bool
  | .str x => Txt.slice x none (some 1) == Str.ofString "?"
  | _ => false
noncomputable def strsOf : List PyData → List Str
  | .str x :: r => x :: strsOf r
  | _ => []
noncomputable def placesB (d : PyData) : Bool :=
  isTup d && (kids d).all pairOk && ((kids d).map (kid · 0)).all isQ && ascB (strsOf ((kids d).map (kid · 0))) && (kids d).all fun e => plainB (kid e 1)
theorem strs_of {h : Heap} : ∀ {vs : List Value} {ds : List PyData}, ReadsAll h vs ds [] → (∀ d ∈ ds, isQ d = true) → StrsAre vs (strsOf ds) ∧ ∀ x ∈ strsOf ds, PyData.str x ∈ ds := by
  intro vs
  induction vs with
  | nil => intro ds r _; cases r; exact ⟨.nil, fun x hx => by simp [strsOf] at hx⟩
  | cons v vs ih =>
    intro ds r hq
    obtain ⟨d, es, rfl, r1, r2⟩ := readsAll_cons r
    have hd := hq d (.head _)
    obtain ⟨i1, i2⟩ := ih r2 fun e he => hq e (.tail _ he)
    cases d with
    | str x =>
      obtain ⟨t, rfl⟩ := reads_strE r1 rfl
      refine ⟨.cons x t i1, fun y hy => ?_⟩
      simp only [strsOf, List.mem_cons] at hy ⊢
      rcases hy with rfl | hy
      · exact .inl rfl
      · exact .inr (i2 y hy)
    | _ => simp [isQ] at hd
theorem strsOf_len : ∀ ds : List PyData, (strsOf ds).length ≤ ds.length
  | [] => by simp [strsOf]
  | .str x :: r => by simp only [strsOf, List.length_cons]; have := strsOf_len r; omega
  | .none :: _ => by simp [strsOf]
  | .bool _ :: _ => by simp [strsOf]
  | .int _ :: _ => by simp [strsOf]
  | .list _ :: _ => by simp [strsOf]
  | .tuple _ :: _ => by simp [strsOf]
  | .dict _ :: _ => by simp [strsOf]
theorem filter_empty {α : Type} {p : α → Bool} {l : List α} (h : (l.filter fun x => !p x).isEmpty = true) : ∀ x ∈ l, p x = true := by
  intro x hx
  cases hp : p x with
  | true => rfl
  | false =>
    have : x ∈ l.filter fun x => !p x := List.mem_filter.mpr ⟨hx, by simp [hp]⟩
    rw [List.isEmpty_iff.mp h] at this
    cases this
theorem filter_full {α : Type} {p : α → Bool} {l : List α} (h : (l.filter fun x => !p x).isEmpty = false) : l.all p = false := by
  cases ha : l.all p with
  | false => rfl
  | true =>
    rw [List.all_eq_true] at ha
    have : l.filter (fun x => !p x) = [] := List.filter_eq_nil_iff.mpr fun x hx => by simp [ha x hx]
    rw [this] at h; cases h
theorem places_no1 {d : PyData} (h : isTup d = false) : false = placesB d := by simp [placesB, h]
theorem places_no2 {d : PyData} (h : ((kids d).filter fun x => !pairOk x).isEmpty = false) : false = placesB d := by simp [placesB, filter_full h]
theorem places_no3 {d : PyData} (h : (((kids d).map (kid · 0)).filter fun x => !isQ x).isEmpty = false) : false = placesB d := by simp only [placesB, filter_full h]; simp
theorem isQ_no {d : PyData} (h : isStr d = false) : true = !isQ d := by cases d <;> simp_all [isStr, isQ]
theorem filter_isEmpty {α : Type} {p : α → Bool} {l : List α} : (l.filter fun x => !p x).isEmpty = l.all p := by
  cases h : (l.filter fun x => !p x).isEmpty with
  | true => exact (List.all_eq_true.mpr (filter_empty h)).symm
  | false => exact (filter_full h).symm
theorem places_end {d : PyData} (hI : isTup d = true) (hp : ∀ x ∈ kids d, pairOk x = true) (hq : (((kids d).map fun d1 => kid d1 0).filter fun x => !isQ x).isEmpty = true) (b : Bool) (hb : ascB (strsOf ((kids d).map fun d1 => kid d1 0)) = b) :
    placesB d = (b && (kids d).all fun e => plainB (kid e 1)) := by
  rw [filter_isEmpty] at hq
  simp only [placesB, hI, List.all_eq_true.mpr hp, hq, hb, Bool.true_and]
theorem keeps_tk {s : Shared} {h : Heap} {tk : Nat} (e : Keep s.heap h) : Keeps s { s with heap := h, toks := tk } := ⟨h, tk, rfl, e⟩
namespace places_ok_n
noncomputable def Wk (w : World) (mean : ExcName → Option Value) (mg : Str → Option Value) (mb : Str → Option Value) (s : Shared) (d : PyData) (A : Around) (base : Heap) (outer : List Env) (L' : Addr) (h₁ : Heap) : Prop := ∀ (v : Value) (R : Reads s.heap v d []) (hg : good 50 d) (hsmall : (kids d).all pairOk = true → (kids d).length ≤ 2), EntP (PostF s (fun _ r => r = .bool (placesB d))) w mean mg mb s A base outer L' h₁ 2 300 [(Str.ofString "thing", v)] (envAt 90 L') (stAt 90)
theorem inhab : Nonempty ((World) × (ExcName → Option Value) × (Str → Option Value) × (Str → Option Value) × (Shared) × (PyData) × (Around) × (Heap) × (List Env) × (Addr) × (Heap)) := ⟨((aWorld 1), (fun _ => none), (fun _ => none), (fun _ => none), ({}), (.none), ({}), ({}), ([]), (0), ({}))⟩
noncomputable def cc : (World) × (ExcName → Option Value) × (Str → Option Value) × (Str → Option Value) × (Shared) × (PyData) × (Around) × (Heap) × (List Env) × (Addr) × (Heap) := pickA inhab fun c => Wk c.1 c.2.1 c.2.2.1 c.2.2.2.1 c.2.2.2.2.1 c.2.2.2.2.2.1 c.2.2.2.2.2.2.1 c.2.2.2.2.2.2.2.1 c.2.2.2.2.2.2.2.2.1 c.2.2.2.2.2.2.2.2.2.1 c.2.2.2.2.2.2.2.2.2.2
@[irreducible] noncomputable def w : World := cc.1
@[irreducible] noncomputable def mean : ExcName → Option Value := cc.2.1
@[irreducible] noncomputable def mg : Str → Option Value := cc.2.2.1
@[irreducible] noncomputable def mb : Str → Option Value := cc.2.2.2.1
@[irreducible] noncomputable def s : Shared := cc.2.2.2.2.1
@[irreducible] noncomputable def d : PyData := cc.2.2.2.2.2.1
@[irreducible] noncomputable def A : Around := cc.2.2.2.2.2.2.1
@[irreducible] noncomputable def base : Heap := cc.2.2.2.2.2.2.2.1
@[irreducible] noncomputable def outer : List Env := cc.2.2.2.2.2.2.2.2.1
@[irreducible] noncomputable def L' : Addr := cc.2.2.2.2.2.2.2.2.2.1
@[irreducible] noncomputable def h₁ : Heap := cc.2.2.2.2.2.2.2.2.2.2
theorem here : Wk w mean mg mb s d A base outer L' h₁ := by
  (have hFill : ∀ P : Params, (Mine.hd.heap_39 P = Mine.hd.heap_39 P) ∧ PySem.Challenge.rw_rg0113_01 = PySem.Challenge.rw_rg0113_01 := (by k_fill; exact fillK); clear hFill)
  unfold Wk
  intro v R hg hsmall
  refine lit_at (f := 90) (L := L') (p := EntP (PostF s (fun _ r => r = .bool (placesB d))) w mean mg mb s A base outer L' h₁ 2 300 [(Str.ofString "thing", v)]) (by k_is) ?_
  intro hh hd hu F1 B1 X1 T1 N1
  (try dsimp only)
  have hgk := good_kids hg
  have hk := len_kids d
  have hsz := hg.2.2
  walk_at "go"; all_goals (try k_data)
  case' _ => skip
  · rename isTup _ = true => hI
    obtain ⟨a, vs, rfl, It, RA⟩ := reads_isTupAt R hI
    have hlen := readsAll_len RA
    refine' compG (fun d1 => !(pairOk d1)) id ?hfree ?hcell rfl ?hnames rfl (fun _ => rfl) F1 RA (good_canAll hgk) (by omega) ?hit ?b N1 ?done
    case hfree => decide
    case hcell => decide
    case hnames => decide
    case hit => walk1; exact src_tup hh (It.keeps F1.keep)
    case b =>
      constructor
      · intro C one d1 s₃ m₃ hd1 R1 FC hm FL hk3
        replace FC := frPin FC hm
        have NC : News s.heap C s₃.heap [] := News.nil
        have hz1 : sz d1 ≤ 1000 := (hgk _ hd1).2.2
        have hz2 : (kids d1).length ≤ 1000 := Nat.le_trans (len_kids d1) hz1
        clear hm F1 N1
        refine wpAny_tests_one ?_
        walk_at "go"; all_goals (try k_data)
        all_goals (refine ⟨?_, _, _, rfl, Keep.refl _⟩; simp_all [pairOk])
      · intro C one d1 s₃ m₃ hd1 ht R1 FC hm FL hk3
        replace FC := frPin FC hm
        have NC : News s.heap C s₃.heap [] := News.nil
        clear hm F1 N1
        walk_at "go"; all_goals (try k_data)
        all_goals exact ⟨R1, _, _, rfl, Keep.refl _⟩
    case done => 
      intro D h' tk ys k hk3 F' N' hne RA'
      simp only [List.map_id] at RA'
      clear hne F1 N1
      walk_at "go"; all_goals (try k_data)
      case' _ => skip
      · rename List.isEmpty _ = true => hemp
        have hpair := filter_empty hemp
        have h2 : (kids d).length ≤ 2 := hsmall (List.all_eq_true.mpr hpair)
        refine' compGA (fun _ => true) (fun d1 => kid d1 0) ?hsw ?hfree ?hcell rfl ?hnames rfl (fun _ => rfl) rfl ?hp rfl (by assumption) RA (good_canAll hgk) (by omega) ?hit ?b (by assumption) ?done
        case hsw => with_unfolding_all rfl
        case hfree => decide
        case hcell => decide
        case hnames => decide
        case hp => rfl
        case hit => walk1; exact src_tup hh (It.keeps (Fr.keep (by assumption)))
        case b =>
          constructor
          · intro C one d1 s₃ m₃ hd1 R1 FC hm FL hk3
            exact wpAny_tests_nil ⟨rfl, _, _, rfl, Keep.refl _⟩
          · intro C one d1 s₃ m₃ hd1 ht R1 FC hm FL hk3
            replace FC := frPin FC hm
            have NC : News s.heap C s₃.heap [] := News.nil
            have hp1 := hpair _ hd1
            simp only [pairOk, Bool.and_eq_true, decide_eq_true_eq] at hp1
            obtain ⟨hp1, hp2⟩ := hp1
            clear hm hd1
            walk_at "go"; all_goals (try k_data)
            all_goals (refine ⟨?_, _, _, rfl, Keep.refl _⟩; assumption)
        case done =>
          intro D2 h'' tk2 ys2 k2 hk4 F'' N'' hne2 RA2
          rw [List.filter_eq_self.mpr (fun _ _ => rfl)] at RA2
          have hgn : ∀ e ∈ (kids d).map (fun d1 => kid d1 0), good 48 e := by
            intro e he
            obtain ⟨d1, hd1, rfl⟩ := List.mem_map.mp he
            have hp1 := hpair _ hd1
            simp only [pairOk, Bool.and_eq_true, decide_eq_true_eq] at hp1
            exact good_kids (hgk _ hd1) _ (kid_mem (by omega))
          have hlen2 := readsAll_len RA2
          have hlm : ((kids d).map (fun d1 => kid d1 0)).length ≤ 2 := by rw [List.length_map]; exact h2
          have F3 : Fr s.heap L' h'' _ := F''
          have N3 : News s.heap L' h'' _ := N''
          clear F'' N'' hk4 hne2
          walk_at "go"; all_goals (try k_data)
          refine' compG (fun nd => !(isQ nd)) id ?hfree ?hcell rfl ?hnames rfl (fun _ => rfl) F3 RA2 (good_canAll hgn) (by omega) ?hit ?b N3 ?done
          case hfree => decide
          case hcell => decide
          case hnames => decide
          case hit => walk1; exact src_list hh (N3.isList (List.Mem.head _))
          case b =>
            constructor
            · intro C one d1 s₃ m₃ hd1 R1 FC hm FL hk3
              replace FC := frPin FC hm
              have NC : News s.heap C s₃.heap [] := News.nil
              have hz1 : sz d1 ≤ 1000 := (hgn _ hd1).2.2
              clear hm
              refine wpAny_tests_one ?_
              walk_at "go"; all_goals (try k_data)
              all_goals (refine ⟨?_, keeps_tk (by first | assumption | exact Keep.refl _)⟩; first | exact isQ_no (by assumption) | (subst_vars; simp_all [isQ, bne]))
            · intro C one d1 s₃ m₃ hd1 ht R1 FC hm FL hk3
              replace FC := frPin FC hm
              have NC : News s.heap C s₃.heap [] := News.nil
              clear hm
              walk_at "go"; all_goals (try k_data)
              all_goals exact ⟨R1, _, _, rfl, Keep.refl _⟩
          case done =>
            intro D4 h4 tk4 ys4 k4 hk4 F4 N4 hne4 RA4
            simp only [List.map_id] at RA4
            have hne4' : D2 ≠ D4 := hne4 _ (List.Mem.head _)
            clear hne4 F3 N3
            have hq : ((((kids d).map (fun d1 => kid d1 0)).filter fun nd => !isQ nd).isEmpty = true) → StrsAre ys2 (strsOf ((kids d).map (fun d1 => kid d1 0))) ∧ ∀ x ∈ strsOf ((kids d).map (fun d1 => kid d1 0)), PyData.str x ∈ ((kids d).map (fun d1 => kid d1 0)) := fun h => strs_of RA2 (filter_empty h)
            generalize hss : strsOf ((kids d).map (fun d1 => kid d1 0)) = ss at hq
            have hzs : ss.length ≤ 2 := by rw [← hss]; exact Nat.le_trans (strsOf_len _) hlm
            have hzd : ss.eraseDups.length ≤ 2 := eraseDups_le2 hzs
            rcases Bool.eq_false_or_eq_true ((((kids d).map (fun d1 => kid d1 0)).filter fun nd => !isQ nd).isEmpty) with hemp2 | hemp2
            · obtain ⟨S2, hin⟩ := hq hemp2
              have hstr : ∀ x ∈ ss, PyData.strOk x = true := fun x hx => by
                have := (hgn _ (hin x hx)).1
                simpa [PyData.canLay0] using this
              walk_at "go"; all_goals (try k_data)
              all_goals (try (rename List.isEmpty _ = false => hx9; rw [hemp2] at hx9; cases hx9))
              case' _ => skip
              · rename ascB _ = _ => hasc
                refine' compG (fun d1 => !(plainB (kid d1 1))) id ?hfree ?hcell rfl ?hnames rfl (fun _ => rfl) (by assumption) RA (good_canAll hgk) (by omega) ?hit ?b (by assumption) ?done
                case hfree => decide
                case hcell => decide
                case hnames => decide
                case hit => walk1; exact src_tup hh (It.keeps (Fr.keep (by assumption)))
                case b =>
                  constructor
                  · intro C one d1 s₃ m₃ hd1 R1 FC hm FL hk3
                    replace FC := frPin FC hm
                    have NC : News s.heap C s₃.heap [] := News.nil
                    have hp1 := hpair _ hd1
                    simp only [pairOk, Bool.and_eq_true, decide_eq_true_eq] at hp1
                    obtain ⟨hp1, hp2⟩ := hp1
                    have hz1 : sz (kid d1 1) ≤ 1000 := Nat.le_trans (sz_kid d1 1) (hgk _ hd1).2.2
                    clear hm
                    refine wpAny_tests_one ?_
                    walk_at "go"; all_goals (try k_data)
                    all_goals (refine ⟨by simp_all, keeps_tk (by assumption)⟩)
                  · intro C one d1 s₃ m₃ hd1 ht R1 FC hm FL hk3
                    replace FC := frPin FC hm
                    have NC : News s.heap C s₃.heap [] := News.nil
                    clear hm
                    walk_at "go"; all_goals (try k_data)
                    all_goals exact ⟨R1, _, _, rfl, Keep.refl _⟩
                case done =>
                  intro D5 h5 tk5 ys5 k5 hk5 F5 N5 hne5 RA5
                  simp only [List.map_id] at RA5
                  clear hne5
                  walk_at "go"; all_goals (try k_data)
                  all_goals (try dsimp only)
                  exact endB (by assumption) (by rw [places_end hI hpair hemp2 true (by rw [hss]; exact hasc), filter_isEmpty]; rfl) rfl
              · rename ascB _ = _ => hasc
                try dsimp only
                exact endB (by assumption) (by rw [places_end hI hpair hemp2 false (by rw [hss]; exact hasc), hasc]; rfl) rfl
            · walk_at "go"; all_goals (try k_data)
              all_goals first | (rw [hemp2] at *; contradiction) | exact endB (by assumption) (places_no3 hemp2) rfl
      · exact endB (by assumption) (places_no2 (by assumption)) rfl
  · exact endB (by assumption) (places_no1 (by assumption)) rfl
theorem all : ∀ c : (World) × (ExcName → Option Value) × (Str → Option Value) × (Str → Option Value) × (Shared) × (PyData) × (Around) × (Heap) × (List Env) × (Addr) × (Heap), Wk c.1 c.2.1 c.2.2.1 c.2.2.2.1 c.2.2.2.2.1 c.2.2.2.2.2.1 c.2.2.2.2.2.2.1 c.2.2.2.2.2.2.2.1 c.2.2.2.2.2.2.2.2.1 c.2.2.2.2.2.2.2.2.2.1 c.2.2.2.2.2.2.2.2.2.2 := pickA_all (h := inhab) (p := fun c => Wk c.1 c.2.1 c.2.2.1 c.2.2.2.1 c.2.2.2.2.1 c.2.2.2.2.2.1 c.2.2.2.2.2.2.1 c.2.2.2.2.2.2.2.1 c.2.2.2.2.2.2.2.2.1 c.2.2.2.2.2.2.2.2.2.1 c.2.2.2.2.2.2.2.2.2.2) (by with_unfolding_all exact @here)
end places_ok_n
theorem places_ok {w : World} {mean : ExcName → Option Value} {mg mb : Str → Option Value} {s : Shared} {v : Value} {d : PyData} (R : Reads s.heap v d []) (hg : good 50 d) (hsmall : (kids d).all pairOk = true → (kids d).length ≤ 2) :
    Pure w mean mg mb 90 [v] 2 300 s (fun _ r => r = .bool (placesB d)) := by
  (have hFill : ∀ P : Params, (Mine.hd.heap_39 P = Mine.hd.heap_39 P) ∧ PySem.Challenge.rw_rg0113_01 = PySem.Challenge.rw_rg0113_01 := (by k_fill; exact fillK); clear hFill)
  k_dflt (refine' pure_enter [(Str.ofString "thing", v)] ?k6 ?k7 ?k9 ?kB (by decide) ?c5 ?c2 ?c3 ?c4 ?_; (case k6 => k_is); (case k7 => k_is); (case k9 => exact BindsTo.of_eq rfl); (case kB => exact locs rfl); (case c5 => decide); (case c2 => exact rfl); (case c3 => exact rfl); (case c4 => exact rfl))
  intro A base outer L' h₁ hh hd hu F1 B1 X1 T1 N1
  exact places_ok_n.all (w, mean, mg, mb, s, d, A, base, outer, L', h₁) v R hg hsmall hh hd hu F1 B1 X1 T1 N1
end
section
theorem reg_form0 : True := by
  k_with_none
  k_with "go" => (repeat' ((fail_if_success (with_reducible show Exists _));(fail_if_success (with_reducible show _ ∧ Keeps _ _));(fail_if_success (with_reducible show wpAny _ _ (eval (PySem.Expr.ListComp _ _ _ _) _) _ _ _));(fail_if_success (with_reducible show wpAny _ _ (exec (Stmt.Assign _ (PySem.Expr.ListComp _ _ _ _) _) _) _ _ _));(fail_if_success (with_reducible show wpAny _ _ (exec (Stmt.While _ _ _ _) _) _ _ _));(fail_if_success (with_reducible show wpAny _ _ (exec (Stmt.For _ _ _ _ _) _) _ _ _));first | (k_unfold;(try dsimp only)) | walk1 | (dsimp only;walk1) | fail "no step"))
  k_with "reads" => (first | with_reducible assumption | exact Reads.keeps (Fr.keep (by k_asm)) (by with_reducible assumption) | (refine' readsNew1 ?rF_r1 ?rN_r1 ?rM_r1 ?rR_r1;(case rF_r1 => k_asm);(case rN_r1 => k_asm);(case rM_r1 => k_mem);(case rR_r1 => with_reducible assumption)))
  k_with "call builtin:len" => ((k_here;(with_reducible show wpAny _ _ (call _ [Value.ref _]) _ _ _);k_dflt (refine' lenLst ?N_r2 ?m_r2 ?z_r2 ?_;(case N_r2 => k_asm);(case m_r2 => k_mem);(case z_r2 => first | assumption | omega);k_whole);intro _ _))
  k_with "call builtin:len" => ((k_here;k_dflt (refine' lenTup ?R_r3 ?t_r3 ?z_r3 ?_;(case R_r3 => walk_at "reads");(case t_r3 => assumption);(case z_r3 => first | assumption | omega);k_whole);intro _ _))
  k_with "call builtin:list.pop" => ((k_here;(with_reducible show wpAny _ _ (call _ [Value.ref _]) _ _ _);k_dflt (refine' popLst ?F_r4 ?N_r4 ?U_r4 ?z_r4 ?_;(case F_r4 => k_asm);(case N_r4 => k_asm);(case U_r4 => k_upd);(case z_r4 => first | assumption | omega);k_whole);intro qh' qF' qN'))
  k_with "call builtin:isinstance" => ((k_here;(with_reducible show wpAny _ _ (call _ [_, Value.type "tuple"]) _ _ _);k_dflt (refine' isiTup ?R_r5 ?_ ?_;(case R_r5 => walk_at "reads"));all_goals (intro qhI;(try intro qtkI);(try dsimp only))))
  k_with "call builtin:isinstance" => ((k_here;(with_reducible show wpAny _ _ (call _ [_, Value.type "str"]) _ _ _);k_dflt (refine' isiStr ?R_r6 ?_ ?_;(case R_r6 => walk_at "reads"));all_goals (first | (intro qxI qtI qeI qhI qlI;(try subst qeI);(try dsimp only)) | (intro qhI qtkI;(try dsimp only)))))
  k_with "subscriptTail" => ((k_here;(with_reducible show wpAny _ _ (subscriptTail _ _ _ (Value.int 0 _)) _ _ _);k_dflt (refine' itemB0 ?F_r7 ?R_r7 ?t_r7 ?k_r7 ?_ ?s_r7;(case F_r7 => k_asm);(case R_r7 => with_reducible assumption);(case t_r7 => assumption);(case k_r7 => omega);(case s_r7 => intro _;with_unfolding_all rfl);k_whole);intro qvI qrI;(try dsimp only at qrI);(try (obtain ⟨qtI, qeI⟩ := reads_strE qrI (by with_reducible assumption);subst qeI));(try dsimp only)))
  k_with "subscriptTail" => ((k_here;(with_reducible show wpAny _ _ (subscriptTail _ _ _ (Value.int 1 _)) _ _ _);k_dflt (refine' itemB1 ?F_r8 ?R_r8 ?t_r8 ?k_r8 ?_ ?s_r8;(case F_r8 => k_asm);(case R_r8 => with_reducible assumption);(case t_r8 => assumption);(case k_r8 => omega);(case s_r8 => intro _;with_unfolding_all rfl);k_whole);intro qvI qrI;(try dsimp only at qrI);(try (obtain ⟨qtI, qeI⟩ := reads_strE qrI (by with_reducible assumption);subst qeI));(try dsimp only)))
  k_with "subscriptTail" => ((k_here;(with_reducible show wpAny _ _ (subscriptTail _ _ _ (Value.int 2 _)) _ _ _);k_dflt (refine' itemB2 ?F_r9 ?R_r9 ?t_r9 ?k_r9 ?_ ?s_r9;(case F_r9 => k_asm);(case R_r9 => with_reducible assumption);(case t_r9 => assumption);(case k_r9 => omega);(case s_r9 => intro _;with_unfolding_all rfl);k_whole);intro qvI qrI;(try dsimp only at qrI);(try (obtain ⟨qtI, qeI⟩ := reads_strE qrI (by with_reducible assumption);subst qeI));(try dsimp only)))
  k_with "subscriptTail" => ((k_here;(with_reducible show wpAny _ _ (subscriptTail _ (PySem.Expr.Slice none (some _) none _) (Value.str _ _) _) _ _ _);(k_dflt (refine strCut1 (s := ⟨_, _, _, _, _⟩) (by assumption) (by assumption) ?hsz_r10 ?_));(case hsz_r10 => (rw [sizeLine_eq];omega));intro qh' qt' qk' qF' qN' qkK;(try dsimp only at qkK);(try dsimp only)))
  k_with "subscriptTail Name Slice str ref" => ((k_here;(with_reducible show wpAny _ _ (subscriptTail _ (PySem.Expr.Slice none (some _) none _) (Value.str _ _) _) _ _ _);(k_dflt (refine strCut1 (s := ⟨_, _, _, _, _⟩) (by assumption) (by assumption) ?hsz_r11 ?_));(case hsz_r11 => (rw [sizeLine_eq];omega));intro qh' qt' qk' qF' qN' qkK;(try dsimp only at qkK);(try dsimp only)))
  k_with "subscriptTail" => ((k_here;(with_reducible show wpAny _ _ (subscriptTail _ (PySem.Expr.Slice (some _) none none _) _ (Value.ref _)) _ _ _);(k_dflt (refine' sliceTup1 (s := ⟨_, _, _, _, _⟩) ?F_r12 ?N_r12 ?R_r12 ?t_r12 ?k_r12 ?z_r12 ?_ ?hs_r12 ?hg_r12;(case F_r12 => k_asm);(case N_r12 => k_asm);(case R_r12 => with_reducible assumption);(case t_r12 => assumption);(case k_r12 => omega);(case z_r12 => omega);(case hs_r12 => intro _;with_unfolding_all rfl);(case hg_r12 => intro _ _;with_unfolding_all rfl)));intro qD' qh' qvs' qF' qN' qR' ql1 qe1;(try k_lt ql1);(try dsimp only)))
  k_with "call builtin:list.extend" => ((k_here;(k_dflt (refine' extLst ?F_r13 ?N_r13 ?b_r13 ?U_r13 ?z_r13 ?_;(case F_r13 => k_asm);(case N_r13 => k_asm);(case b_r13 => k_mem);(case U_r13 => intro qk9;k_upd);(case z_r13 => omega)));intro qh' qk' qF' qN';(try dsimp only)))
  k_with "good" => (first | exact good_shaped (by assumption) (by omega) | exact good_shaped (good_filter (by assumption)) (by omega))
  k_with "units" => (first | exact addLt (by assumption) (by decide) | exact addLt1 (c := 3) (by assumption) (by decide) | exact addLt1 (c := 1) (by assumption) (by decide) | exact addLt2 (c := 3) (d := 1) (by assumption) (by decide) | exact addLt2 (c := 3) (d := 3) (by assumption) (by decide) | omega | ((try simp only [Around.deeper_units, units_in1]);omega))
  k_with "compareOp NotEq ref ref" => ((k_here;(with_reducible show wpAny _ _ (compareOp CmpOp.NotEq (Value.ref _) (Value.ref _)) _ _ _);k_dflt (refine' neNil ?F_r16 ?N_r16 ?E_r16 ?RA_r16 ?D_r16 ?a_r16 ?u_r16 ?_;(case F_r16 => k_asm);(case N_r16 => k_asm);(case E_r16 => k_mem);(case D_r16 => k_mem);(case RA_r16 => with_reducible assumption);(case a_r16 => walk_at "good");(case u_r16 => walk_at "units");k_whole);(try dsimp only)))
  k_with "compareOp Eq ref ref" => ((k_here;(with_reducible show wpAny _ _ (compareOp CmpOp.Eq (Value.ref _) (Value.ref _)) _ _ _);k_dflt (refine' eqNil ?F_r17 ?N_r17 ?E_r17 ?RA_r17 ?D_r17 ?a_r17 ?u_r17 ?_;(case F_r17 => k_asm);(case N_r17 => k_asm);(case E_r17 => k_mem);(case D_r17 => k_mem);(case RA_r17 => with_reducible assumption);(case a_r17 => walk_at "good");(case u_r17 => walk_at "units");k_whole);(try dsimp only)))
  k_with "call type:set" => ((k_here;(with_reducible show wpAny _ _ (call (Value.type "set") [Value.ref _]) _ _ _);k_dflt (refine' setStrs ?hh_r18 ?F_r18 ?N_r18 ?D_r18 ?S_r18 ?z_r18 ?_;(case hh_r18 => assumption);(case F_r18 => k_asm);(case N_r18 => k_asm);(case D_r18 => k_mem);(case S_r18 => with_reducible assumption);(case z_r18 => with_reducible assumption));intro qD' qh' qo' qtk' qF' qN' ql1 qsO;(try k_lt ql1);(try dsimp only)))
  k_with "call builtin:sorted" => ((k_here;(with_reducible show wpAny _ _ (call (Value.builtin "sorted") [Value.ref _]) _ _ _);k_dflt (refine' sortedSet ?hh_r19 ?F_r19 ?N_r19 ?D_r19 ?S_r19 ?z_r19 ?_;(case hh_r19 => assumption);(case F_r19 => k_asm);(case N_r19 => k_asm);(case D_r19 => k_mem);(case S_r19 => with_reducible assumption);(case z_r19 => with_reducible assumption));intro qD' qh' qtk' qdr' qvs' qss' qk' qF' qN' ql1 qsA qpA qsS;(try k_lt ql1);(try dsimp only)))
  k_with "compareOp Eq ref ref" => ((k_here;(with_reducible show wpAny _ _ (compareOp CmpOp.Eq (Value.ref _) (Value.ref _)) _ _ _);k_dflt (refine' eqNames ?F_r20 ?N_r20 ?D_r20 ?E_r20 ?SD_r20 ?SE_r20 ?p_r20 ?s_r20 ?ok_r20 ?z_r20 ?u_r20 ?_;(case F_r20 => k_asm);(case N_r20 => k_asm);(case D_r20 => k_mem);(case E_r20 => k_mem);(case SD_r20 => with_reducible assumption);(case SE_r20 => with_reducible assumption);(case p_r20 => with_reducible assumption);(case s_r20 => with_reducible assumption);(case ok_r20 => with_reducible assumption);(case z_r20 => with_reducible assumption);(case u_r20 => walk_at "units");k_whole);(try dsimp only)))
  k_with "room" => (first | exact addLt (by assumption) (by decide) | exact addLt1 (c := 1) (by assumption) (by decide) | exact addLt2 (c := 1) (d := 1) (by assumption) (by decide) | omega | ((try simp only [depth_deeper, depth_in1]);omega))
  k_with "call ref" => ((k_here;k_dflt (refine' plain_ok ?R_r22 ?z_r22 _ _ _ _ _ _ _ _ _ _ ?h1_r22 ?h2_r22 ?h3_r22 ?h4_r22 ?h5_r22 ?h6_r22 ?B_r22 ?F_r22 ?X_r22 ?T_r22 ?_;(case R_r22 => walk_at "reads");(case z_r22 => first | assumption | omega | (simp only [sz, szAll];omega));(case h1_r22 => assumption);(case h2_r22 => first | exact Around.frames_deeper (Below.stack (by assumption)) | assumption);(case h3_r22 => exact rfl);(case h4_r22 => exact rfl);(case h5_r22 => walk_at "room");(case h6_r22 => walk_at "units");(case B_r22 => assumption);(case F_r22 => assumption);(case X_r22 => assumption);(case T_r22 => assumption));intro qv9 qh' qtk' qkK;(try dsimp only at qkK);(rename News _ _ _ _ => qN9);(have qN' := Keep.news qkK qN9);(rename Fr _ _ _ _ => qF9);(have qF9k := fun (_ : True) => Keep.fr qkK qF9);intro qhF' qhP';(have qF' := qF9k True.intro);clear qF9k;(try subst qhP');(try dsimp only)))
  k_with "call ref" => ((k_here;k_dflt (refine' places_ok ?R_r23 ?g_r23 ?sm_r23 _ _ _ _ _ _ _ _ _ _ ?h1_r23 ?h2_r23 ?h3_r23 ?h4_r23 ?h5_r23 ?h6_r23 ?B_r23 ?F_r23 ?X_r23 ?T_r23 ?_;(case R_r23 => walk_at "reads");(case g_r23 => first | assumption | exact good_kids (by assumption) _ (kid_mem (by omega)));(case sm_r23 => assumption);(case h1_r23 => assumption);(case h2_r23 => first | exact Around.frames_deeper (Below.stack (by assumption)) | assumption);(case h3_r23 => exact rfl);(case h4_r23 => exact rfl);(case h5_r23 => walk_at "room");(case h6_r23 => walk_at "units");(case B_r23 => assumption);(case F_r23 => assumption);(case X_r23 => assumption);(case T_r23 => assumption));intro qv9 qh' qtk' qdr' qkK;(try dsimp only at qkK);(rename News _ _ _ _ => qN9);(have qN' := Keep.news qkK qN9);(rename Fr _ _ _ _ => qF9);(have qF9k := fun (_ : True) => Keep.fr qkK qF9);intro qhF' qhP';(have qF' := qF9k True.intro);clear qF9k;(try subst qhP');(try dsimp only)))
  k_with "unpackItems ref" => ((k_here;k_dflt (refine' unpackTup ?F_r24 ?N_r24 ?hh_r24 ?ht_r24 ?hn_r24 ?_;(case F_r24 => k_asm);(case N_r24 => k_asm);(case hh_r24 => assumption);(case ht_r24 => kun_tup);(case hn_r24 => exact rfl);k_whole);intro qh' qF' qN' qkK;(try dsimp only)))
  k_with "go2" => (repeat' ((fail_if_success (with_reducible show Exists _));(fail_if_success (with_reducible show _ ∧ Keeps _ _));(fail_if_success (with_reducible show wpAny _ _ (eval (PySem.Expr.ListComp _ _ _ _) _) _ _ _));(fail_if_success (with_reducible show wpAny _ _ (exec (Stmt.Assign _ (PySem.Expr.ListComp _ _ _ _) _) _) _ _ _));(fail_if_success (with_reducible show wpAny _ _ (exec (Stmt.For _ _ _ _ _) _) _ _ _));first | (k_unfold;(try dsimp only)) | walk1 | (dsimp only;walk1) | fail "no step"))
  k_with "assign Tuple" => ((k_here;k_dflt (refine' asgPair ?F_r26 ?N_r26 ?hh_r26 ?ht_r26 ?_;(case F_r26 => k_asm);(case N_r26 => k_asm);(case hh_r26 => assumption);(case ht_r26 => kun_tup);k_whole);intro qh' qF' qN' qkK;(try dsimp only)))
  k_with "go3" => (repeat' ((fail_if_success (with_reducible show Exists _));(fail_if_success (with_reducible show _ ∧ Keeps _ _));(fail_if_success (with_reducible show wpAny _ _ (exec (Stmt.Assign _ (PySem.Expr.ListComp _ _ _ _) _) _) _ _ _));(fail_if_success (with_reducible show wpAny _ _ (exec (Stmt.For _ _ _ _ _) _) _ _ _));first | (k_unfold;(try dsimp only)) | walk1 | (dsimp only;walk1) | fail "no step"))
  k_with "call type:enumerate" => ((k_here;(with_reducible show wpAny _ _ (call (Value.type "enumerate") [Value.ref _]) _ _ _);k_dflt (refine' enumT ?F_r28 ?N_r28 ?m_r28 ?_;(case F_r28 => k_asm);(case N_r28 => k_asm);(case m_r28 => k_mem));intro qe qh' qF' qN' qkE;(try dsimp only)))
  k_with "go4" => (repeat' ((fail_if_success (with_reducible show Exists _));(fail_if_success (with_reducible show _ ∧ Keeps _ _));(fail_if_success (with_reducible show wpAny _ _ (eval (PySem.Expr.ListComp _ _ _ _) _) _ _ _));(fail_if_success (with_reducible show wpAny _ _ (exec (Stmt.Assign _ (PySem.Expr.ListComp _ _ _ _) _) _) _ _ _));first | (k_unfold;(try dsimp only)) | walk1 | (dsimp only;walk1) | fail "no step"))
  k_with "k_ne" => ((refine neN ?_;(try dsimp only);first | assumption | exact Ne.symm (by assumption) | exact Nat.ne_of_lt (by assumption) | exact Nat.ne_of_gt (by assumption) | exact (And.left (by assumption)) | exact (Ne.symm (And.left (by assumption))) | exact (Nat.ne_of_lt (And.left (by assumption))) | exact (Nat.ne_of_gt (And.left (by assumption))) | exact (And.left (And.right (by assumption))) | exact (Ne.symm (And.left (And.right (by assumption)))) | exact (Nat.ne_of_lt (And.left (And.right (by assumption)))) | exact (Nat.ne_of_gt (And.left (And.right (by assumption)))) | exact (And.right (by assumption)) | exact (Ne.symm (And.right (by assumption))) | exact (Nat.ne_of_lt (And.right (by assumption))) | exact (Nat.ne_of_gt (And.right (by assumption))) | exact (And.left (And.right (And.right (by assumption)))) | exact (Ne.symm (And.left (And.right (And.right (by assumption))))) | exact (Nat.ne_of_lt (And.left (And.right (And.right (by assumption))))) | exact (Nat.ne_of_gt (And.left (And.right (And.right (by assumption))))) | exact (And.right (And.right (by assumption))) | exact (Ne.symm (And.right (And.right (by assumption)))) | exact (Nat.ne_of_lt (And.right (And.right (by assumption)))) | exact (Nat.ne_of_gt (And.right (And.right (by assumption)))) | exact (And.left (And.right (And.right (And.right (by assumption))))) | exact (Ne.symm (And.left (And.right (And.right (And.right (by assumption)))))) | exact (Nat.ne_of_lt (And.left (And.right (And.right (And.right (by assumption)))))) | exact (Nat.ne_of_gt (And.left (And.right (And.right (And.right (by assumption)))))) | exact (And.right (And.right (And.right (by assumption)))) | exact (Ne.symm (And.right (And.right (And.right (by assumption))))) | exact (Nat.ne_of_lt (And.right (And.right (And.right (by assumption))))) | exact (Nat.ne_of_gt (And.right (And.right (And.right (by assumption))))) | exact (And.left (And.right (And.right (And.right (And.right (by assumption)))))) | exact (Ne.symm (And.left (And.right (And.right (And.right (And.right (by assumption))))))) | exact (Nat.ne_of_lt (And.left (And.right (And.right (And.right (And.right (by assumption))))))) | exact (Nat.ne_of_gt (And.left (And.right (And.right (And.right (And.right (by assumption))))))) | exact (And.right (And.right (And.right (And.right (by assumption))))) | exact (Ne.symm (And.right (And.right (And.right (And.right (by assumption)))))) | exact (Nat.ne_of_lt (And.right (And.right (And.right (And.right (by assumption)))))) | exact (Nat.ne_of_gt (And.right (And.right (And.right (And.right (by assumption)))))) | exact (And.left (And.right (And.right (And.right (And.right (And.right (by assumption))))))) | exact (Ne.symm (And.left (And.right (And.right (And.right (And.right (And.right (by assumption)))))))) | exact (Nat.ne_of_lt (And.left (And.right (And.right (And.right (And.right (And.right (by assumption)))))))) | exact (Nat.ne_of_gt (And.left (And.right (And.right (And.right (And.right (And.right (by assumption)))))))) | exact (And.right (And.right (And.right (And.right (And.right (by assumption)))))) | exact (Ne.symm (And.right (And.right (And.right (And.right (And.right (by assumption))))))) | exact (Nat.ne_of_lt (And.right (And.right (And.right (And.right (And.right (by assumption))))))) | exact (Nat.ne_of_gt (And.right (And.right (And.right (And.right (And.right (by assumption))))))) | exact (And.left (And.right (And.right (And.right (And.right (And.right (And.right (by assumption)))))))) | exact (Ne.symm (And.left (And.right (And.right (And.right (And.right (And.right (And.right (by assumption))))))))) | exact (Nat.ne_of_lt (And.left (And.right (And.right (And.right (And.right (And.right (And.right (by assumption))))))))) | exact (Nat.ne_of_gt (And.left (And.right (And.right (And.right (And.right (And.right (And.right (by assumption))))))))) | exact (And.right (And.right (And.right (And.right (And.right (And.right (by assumption))))))) | exact (Ne.symm (And.right (And.right (And.right (And.right (And.right (And.right (by assumption)))))))) | exact (Nat.ne_of_lt (And.right (And.right (And.right (And.right (And.right (And.right (by assumption)))))))) | exact (Nat.ne_of_gt (And.right (And.right (And.right (And.right (And.right (And.right (by assumption)))))))) | omega))
  trivial
noncomputable def formS (n : Int) (x : Str) (p1 s1 pl p1t t2 : Bool) : Bool :=
  bif x == Str.ofString "same" then (n == 2) && p1
  else bif x == Str.ofString "told" then (n == 2) && s1
  else bif x == Str.ofString "rule" then (n == 3) && s1 && pl
  else bif x == Str.ofString "under" then (n == 3) && p1t && t2
  else ((x == Str.ofString "turn") && (n == 2)) || ((x == Str.ofString "join") && (n == 3))
noncomputable def formB (d : PyData) : Bool :=
  isTup d && decide (¬ ((kids d).length : Int) < 2) && (match kid d 0 with
    | .str x => formS (kids d).length x (plainB (kid d 1)) (isStr (kid d 1)) (placesB (kid d 2)) (plainB (.tuple [kid d 1])) (isTup (kid d 2))
    | _ => false)
theorem form_no1 {d : PyData} (h : isTup d = false) : false = formB d := by simp [formB, h]
theorem form_no2 {d : PyData} (h : ((kids d).length : Int) < 2) : false = formB d := by simp only [formB]; simp [h]
theorem form_no3 {d : PyData} (h : isStr (kid d 0) = false) : false = formB d := by
  simp only [formB]
  cases hk : kid d 0 <;> simp_all [isStr]
theorem form_str {d : PyData} {x : Str} (h : isTup d = true) (hl : ¬ ((kids d).length : Int) < 2) (h0 : kid d 0 = .str x) {b : Bool} (hb : b = formS (kids d).length x (plainB (kid d 1)) (isStr (kid d 1)) (placesB (kid d 2)) (plainB (.tuple [kid d 1])) (isTup (kid d 2))) : b = formB d := by
  rw [hb]; simp only [formB, h, h0]; simp [hl]
theorem isStr_of {d : PyData} {x : Str} (h : d = .str x) : isStr d = true := by rw [h]; rfl
section
variable {n : Int} {x : Str} {p1 s1 pl p1t t2 b : Bool}
theorem fs1 (h : (x == Str.ofString "same") = true) (hn : n = 2) : p1 = formS n x p1 s1 pl p1t t2 := by simp [formS, h, hn]
theorem fs2 (h : (x == Str.ofString "same") = true) (hn : n ≠ 2) : (n == 2) = formS n x p1 s1 pl p1t t2 := by simp [formS, h, hn]
theorem fs3 (h1 : (x == Str.ofString "same") = false) (h : (x == Str.ofString "told") = true) (hn : n = 2) (hs : s1 = b) : b = formS n x p1 s1 pl p1t t2 := by simp only [formS, h1, h, cond_false, cond_true, hs, hn]; cases b <;> rfl
theorem fs4 (h1 : (x == Str.ofString "same") = false) (h : (x == Str.ofString "told") = true) (hn : n ≠ 2) : (n == 2) = formS n x p1 s1 pl p1t t2 := by simp only [formS, h1, h, cond_false, cond_true]; simp [hn]
theorem fs5 (h1 : (x == Str.ofString "same") = false) (h2 : (x == Str.ofString "told") = false) (h : (x == Str.ofString "rule") = true) (hn : n = 3) (hs : s1 = true) : pl = formS n x p1 s1 pl p1t t2 := by simp only [formS, h1, h2, h, cond_false, cond_true, hs, hn]; simp
theorem fs6 (h1 : (x == Str.ofString "same") = false) (h2 : (x == Str.ofString "told") = false) (h : (x == Str.ofString "rule") = true) (hn : n = 3) (hs : s1 = false) : false = formS n x p1 s1 pl p1t t2 := by simp only [formS, h1, h2, h, cond_false, cond_true, hs, hn]; simp
theorem fs7 (h1 : (x == Str.ofString "same") = false) (h2 : (x == Str.ofString "told") = false) (h : (x == Str.ofString "rule") = true) (hn : n ≠ 3) : (n == 3) = formS n x p1 s1 pl p1t t2 := by
  have e : (n == 3) = false := by simpa using hn
  simp only [formS, h1, h2, h, cond_false, cond_true, e, Bool.false_and]
theorem fs8 (h1 : (x == Str.ofString "same") = false) (h2 : (x == Str.ofString "told") = false) (h3 : (x == Str.ofString "rule") = false) (h : (x == Str.ofString "under") = true) (hn : n = 3) (hp : p1t = true) (hs : t2 = b) : b = formS n x p1 s1 pl p1t t2 := by simp only [formS, h1, h2, h3, h, cond_false, cond_true, hs, hp, hn]; cases b <;> rfl
theorem fs9 (h1 : (x == Str.ofString "same") = false) (h2 : (x == Str.ofString "told") = false) (h3 : (x == Str.ofString "rule") = false) (h : (x == Str.ofString "under") = true) (hn : n = 3) (hp : p1t = false) (e : p1t = b) : b = formS n x p1 s1 pl p1t t2 := by simp only [formS, h1, h2, h3, h, cond_false, cond_true, hn, ← e, hp]; simp
theorem fs10 (h1 : (x == Str.ofString "same") = false) (h2 : (x == Str.ofString "told") = false) (h3 : (x == Str.ofString "rule") = false) (h : (x == Str.ofString "under") = true) (hn : n ≠ 3) : (n == 3) = formS n x p1 s1 pl p1t t2 := by
  have e : (n == 3) = false := by simpa using hn
  simp only [formS, h1, h2, h3, h, cond_false, cond_true, e, Bool.false_and]
theorem fs11 (h1 : (x == Str.ofString "same") = false) (h2 : (x == Str.ofString "told") = false) (h3 : (x == Str.ofString "rule") = false) (h4 : (x == Str.ofString "under") = false) (h : (x == Str.ofString "turn") = true) (hn : n = 2) : (n == 2) = formS n x p1 s1 pl p1t t2 := by simp only [formS, h1, h2, h3, h4, h, cond_false]; simp [hn]
theorem fs12 (h1 : (x == Str.ofString "same") = false) (h2 : (x == Str.ofString "told") = false) (h3 : (x == Str.ofString "rule") = false) (h4 : (x == Str.ofString "under") = false) (h : (x == Str.ofString "turn") = true) (hn : n ≠ 2) (h5 : (x == Str.ofString "join") = true) : (n == 3) = formS n x p1 s1 pl p1t t2 := by simp only [formS, h1, h2, h3, h4, h, h5, cond_false]; simp [hn]
theorem fs13 (h1 : (x == Str.ofString "same") = false) (h2 : (x == Str.ofString "told") = false) (h3 : (x == Str.ofString "rule") = false) (h4 : (x == Str.ofString "under") = false) (h : (x == Str.ofString "turn") = true) (hn : n ≠ 2) (h5 : (x == Str.ofString "join") = false) : (x == Str.ofString "join") = formS n x p1 s1 pl p1t t2 := by simp only [formS, h1, h2, h3, h4, h, h5, cond_false]; simp [hn]
theorem fs14 (h1 : (x == Str.ofString "same") = false) (h2 : (x == Str.ofString "told") = false) (h3 : (x == Str.ofString "rule") = false) (h4 : (x == Str.ofString "under") = false) (h : (x == Str.ofString "turn") = false) (h5 : (x == Str.ofString "join") = true) : (n == 3) = formS n x p1 s1 pl p1t t2 := by simp only [formS, h1, h2, h3, h4, h, h5, cond_false]; simp
theorem fs15 (h1 : (x == Str.ofString "same") = false) (h2 : (x == Str.ofString "told") = false) (h3 : (x == Str.ofString "rule") = false) (h4 : (x == Str.ofString "under") = false) (h : (x == Str.ofString "turn") = false) (h5 : (x == Str.ofString "join") = false) : (x == Str.ofString "join") = formS n x p1 s1 pl p1t t2 := by simp only [formS, h1, h2, h3, h4, h, h5, cond_false]; simp
end
namespace form_ok_n
noncomputable def Wk (w : World) (mean : ExcName → Option Value) (mg : Str → Option Value) (mb : Str → Option Value) (s : Shared) (d : PyData) (A : Around) (base : Heap) (outer : List Env) (L' : Addr) (h₁ : Heap) : Prop := ∀ (v : Value) (R : Reads s.heap v d []) (hg : good 51 d) (hz : sz d ≤ 900) (hsmall : (kids (kid d 2)).all pairOk = true → (kids (kid d 2)).length ≤ 2), EntP (PostF s (fun _ r => r = .bool (formB d))) w mean mg mb s A base outer L' h₁ 3 400 [(Str.ofString "thing", v)] (envAt 97 L') (stAt 97)
theorem inhab : Nonempty ((World) × (ExcName → Option Value) × (Str → Option Value) × (Str → Option Value) × (Shared) × (PyData) × (Around) × (Heap) × (List Env) × (Addr) × (Heap)) := ⟨((aWorld 1), (fun _ => none), (fun _ => none), (fun _ => none), ({}), (.none), ({}), ({}), ([]), (0), ({}))⟩
noncomputable def cc : (World) × (ExcName → Option Value) × (Str → Option Value) × (Str → Option Value) × (Shared) × (PyData) × (Around) × (Heap) × (List Env) × (Addr) × (Heap) := pickA inhab fun c => Wk c.1 c.2.1 c.2.2.1 c.2.2.2.1 c.2.2.2.2.1 c.2.2.2.2.2.1 c.2.2.2.2.2.2.1 c.2.2.2.2.2.2.2.1 c.2.2.2.2.2.2.2.2.1 c.2.2.2.2.2.2.2.2.2.1 c.2.2.2.2.2.2.2.2.2.2
@[irreducible] noncomputable def w : World := cc.1
@[irreducible] noncomputable def mean : ExcName → Option Value := cc.2.1
@[irreducible] noncomputable def mg : Str → Option Value := cc.2.2.1
@[irreducible] noncomputable def mb : Str → Option Value := cc.2.2.2.1
@[irreducible] noncomputable def s : Shared := cc.2.2.2.2.1
@[irreducible] noncomputable def d : PyData := cc.2.2.2.2.2.1
@[irreducible] noncomputable def A : Around := cc.2.2.2.2.2.2.1
@[irreducible] noncomputable def base : Heap := cc.2.2.2.2.2.2.2.1
@[irreducible] noncomputable def outer : List Env := cc.2.2.2.2.2.2.2.2.1
@[irreducible] noncomputable def L' : Addr := cc.2.2.2.2.2.2.2.2.2.1
@[irreducible] noncomputable def h₁ : Heap := cc.2.2.2.2.2.2.2.2.2.2
theorem here : Wk w mean mg mb s d A base outer L' h₁ := by
  (have hFill : ∀ P : Params, (Mine.hd.heap_39 P = Mine.hd.heap_39 P) ∧ PySem.Challenge.rw_rg0113_01 = PySem.Challenge.rw_rg0113_01 := (by k_fill; exact fillK); clear hFill)
  unfold Wk
  intro v R hg hz hsmall
  refine lit_at (f := 97) (L := L') (p := EntP (PostF s (fun _ r => r = .bool (formB d))) w mean mg mb s A base outer L' h₁ 3 400 [(Str.ofString "thing", v)]) (by k_is) ?_
  intro hh hd hu F1 B1 X1 T1 N1
  (try dsimp only)
  have hgk : ∀ k, k < (kids d).length → good 50 (kid d k) := fun k hk => good_kids hg _ (kid_mem hk)
  have hk := len_kids d
  have hz0 : sz (kid d 0) ≤ 900 := Nat.le_trans (sz_kid d 0) hz
  have hz1 : sz (kid d 1) ≤ 900 := Nat.le_trans (sz_kid d 1) hz
  walk_at "go"; all_goals (try k_data)
  all_goals (try ((with_reducible show wpAny _ _ (call _ _) _ _ _); walk_at "call ref"; (walk_at "go"); all_goals (try k_data)))
  all_goals (try dsimp only)
  all_goals first
    | exact endB (by assumption) (form_no1 (by assumption)) rfl
    | exact endB (by assumption) (form_no2 (by assumption)) rfl
    | exact endB (by assumption) (form_no3 (by assumption)) rfl
    | (refine endB (by assumption) (form_str (by assumption) (by assumption) (by assumption) ?_) rfl
       first
        | exact fs1 (by assumption) (by assumption)
        | exact fs2 (by assumption) (by assumption)
        | exact fs3 (by assumption) (by assumption) (by assumption) (isStr_of (by assumption))
        | exact fs3 (by assumption) (by assumption) (by assumption) (by assumption)
        | exact fs4 (by assumption) (by assumption) (by assumption)
        | exact fs5 (by assumption) (by assumption) (by assumption) (by assumption) (isStr_of (by assumption))
        | exact fs6 (by assumption) (by assumption) (by assumption) (by assumption) (by assumption)
        | exact fs7 (by assumption) (by assumption) (by assumption) (by assumption)
        | exact fs8 (by assumption) (by assumption) (by assumption) (by assumption) (by assumption) (by assumption) (by assumption)
        | exact fs9 (by assumption) (by assumption) (by assumption) (by assumption) (by assumption) (by assumption) rfl
        | exact fs9 (by assumption) (by assumption) (by assumption) (by assumption) (by assumption) (by assumption) (by assumption)
        | exact fs10 (by assumption) (by assumption) (by assumption) (by assumption) (by assumption)
        | exact fs11 (by assumption) (by assumption) (by assumption) (by assumption) (by assumption) (by assumption)
        | exact fs12 (by assumption) (by assumption) (by assumption) (by assumption) (by assumption) (by assumption) (by assumption)
        | exact fs13 (by assumption) (by assumption) (by assumption) (by assumption) (by assumption) (by assumption) (by assumption)
        | exact fs14 (by assumption) (by assumption) (by assumption) (by assumption) (by assumption) (by assumption)
        | exact fs15 (by assumption) (by assumption) (by assumption) (by assumption) (by assumption) (by assumption))
theorem all : ∀ c : (World) × (ExcName → Option Value) × (Str → Option Value) × (Str → Option Value) × (Shared) × (PyData) × (Around) × (Heap) × (List Env) × (Addr) × (Heap), Wk c.1 c.2.1 c.2.2.1 c.2.2.2.1 c.2.2.2.2.1 c.2.2.2.2.2.1 c.2.2.2.2.2.2.1 c.2.2.2.2.2.2.2.1 c.2.2.2.2.2.2.2.2.1 c.2.2.2.2.2.2.2.2.2.1 c.2.2.2.2.2.2.2.2.2.2 := pickA_all (h := inhab) (p := fun c => Wk c.1 c.2.1 c.2.2.1 c.2.2.2.1 c.2.2.2.2.1 c.2.2.2.2.2.1 c.2.2.2.2.2.2.1 c.2.2.2.2.2.2.2.1 c.2.2.2.2.2.2.2.2.1 c.2.2.2.2.2.2.2.2.2.1 c.2.2.2.2.2.2.2.2.2.2) (by with_unfolding_all exact @here)
end form_ok_n
theorem form_ok {w : World} {mean : ExcName → Option Value} {mg mb : Str → Option Value} {s : Shared} {v : Value} {d : PyData} (R : Reads s.heap v d []) (hg : good 51 d) (hz : sz d ≤ 900) (hsmall : (kids (kid d 2)).all pairOk = true → (kids (kid d 2)).length ≤ 2) :
    Pure w mean mg mb 97 [v] 3 400 s (fun _ r => r = .bool (formB d)) := by
  (have hFill : ∀ P : Params, (Mine.hd.heap_39 P = Mine.hd.heap_39 P) ∧ PySem.Challenge.rw_rg0113_01 = PySem.Challenge.rw_rg0113_01 := (by k_fill; exact fillK); clear hFill)
  k_dflt (refine' pure_enter [(Str.ofString "thing", v)] ?k6 ?k7 ?k9 ?kB (by decide) ?c5 ?c2 ?c3 ?c4 ?_; (case k6 => k_is); (case k7 => k_is); (case k9 => exact BindsTo.of_eq rfl); (case kB => exact locs rfl); (case c5 => decide); (case c2 => exact rfl); (case c3 => exact rfl); (case c4 => exact rfl))
  intro A base outer L' h₁ hh hd hu F1 B1 X1 T1 N1
  exact form_ok_n.all (w, mean, mg, mb, s, d, A, base, outer, L', h₁) v R hg hz hsmall hh hd hu F1 B1 X1 T1 N1
end
section
theorem reg_parts0 : True := by
  k_with_none
  k_with "go" => (repeat' ((fail_if_success (with_reducible show Exists _));(fail_if_success (with_reducible show _ ∧ Keeps _ _));(fail_if_success (with_reducible show wpAny _ _ (eval (PySem.Expr.ListComp _ _ _ _) _) _ _ _));(fail_if_success (with_reducible show wpAny _ _ (exec (Stmt.Assign _ (PySem.Expr.ListComp _ _ _ _) _) _) _ _ _));(fail_if_success (with_reducible show wpAny _ _ (exec (Stmt.While _ _ _ _) _) _ _ _));(fail_if_success (with_reducible show wpAny _ _ (exec (Stmt.For _ _ _ _ _) _) _ _ _));first | (k_unfold;(try dsimp only)) | walk1 | (dsimp only;walk1) | fail "no step"))
  k_with "reads" => (first | with_reducible assumption | exact Reads.keeps (Fr.keep (by k_asm)) (by with_reducible assumption) | (refine' readsNew1 ?rF_r1 ?rN_r1 ?rM_r1 ?rR_r1;(case rF_r1 => k_asm);(case rN_r1 => k_asm);(case rM_r1 => k_mem);(case rR_r1 => with_reducible assumption)))
  k_with "call builtin:len" => ((k_here;(with_reducible show wpAny _ _ (call _ [Value.ref _]) _ _ _);k_dflt (refine' lenLst ?N_r2 ?m_r2 ?z_r2 ?_;(case N_r2 => k_asm);(case m_r2 => k_mem);(case z_r2 => first | assumption | omega);k_whole);intro _ _))
  k_with "call builtin:len" => ((k_here;k_dflt (refine' lenTup ?R_r3 ?t_r3 ?z_r3 ?_;(case R_r3 => walk_at "reads");(case t_r3 => assumption);(case z_r3 => first | assumption | omega);k_whole);intro _ _))
  k_with "call builtin:list.pop" => ((k_here;(with_reducible show wpAny _ _ (call _ [Value.ref _]) _ _ _);k_dflt (refine' popLst ?F_r4 ?N_r4 ?U_r4 ?z_r4 ?_;(case F_r4 => k_asm);(case N_r4 => k_asm);(case U_r4 => k_upd);(case z_r4 => first | assumption | omega);k_whole);intro qh' qF' qN'))
  k_with "call builtin:isinstance" => ((k_here;(with_reducible show wpAny _ _ (call _ [_, Value.type "tuple"]) _ _ _);k_dflt (refine' isiTup ?R_r5 ?_ ?_;(case R_r5 => walk_at "reads"));all_goals (intro qhI;(try intro qtkI);(try dsimp only))))
  k_with "call builtin:isinstance" => ((k_here;(with_reducible show wpAny _ _ (call _ [_, Value.type "str"]) _ _ _);k_dflt (refine' isiStr ?R_r6 ?_ ?_;(case R_r6 => walk_at "reads"));all_goals (first | (intro qxI qtI qeI qhI qlI;(try subst qeI);(try dsimp only)) | (intro qhI qtkI;(try dsimp only)))))
  k_with "subscriptTail" => ((k_here;(with_reducible show wpAny _ _ (subscriptTail _ _ _ (Value.int 0 _)) _ _ _);k_dflt (refine' itemB0 ?F_r7 ?R_r7 ?t_r7 ?k_r7 ?_ ?s_r7;(case F_r7 => k_asm);(case R_r7 => with_reducible assumption);(case t_r7 => assumption);(case k_r7 => omega);(case s_r7 => intro _;with_unfolding_all rfl);k_whole);intro qvI qrI;(try dsimp only at qrI);(try (obtain ⟨qtI, qeI⟩ := reads_strE qrI (by with_reducible assumption);subst qeI));(try dsimp only)))
  k_with "subscriptTail" => ((k_here;(with_reducible show wpAny _ _ (subscriptTail _ _ _ (Value.int 1 _)) _ _ _);k_dflt (refine' itemB1 ?F_r8 ?R_r8 ?t_r8 ?k_r8 ?_ ?s_r8;(case F_r8 => k_asm);(case R_r8 => with_reducible assumption);(case t_r8 => assumption);(case k_r8 => omega);(case s_r8 => intro _;with_unfolding_all rfl);k_whole);intro qvI qrI;(try dsimp only at qrI);(try (obtain ⟨qtI, qeI⟩ := reads_strE qrI (by with_reducible assumption);subst qeI));(try dsimp only)))
  k_with "subscriptTail" => ((k_here;(with_reducible show wpAny _ _ (subscriptTail _ _ _ (Value.int 2 _)) _ _ _);k_dflt (refine' itemB2 ?F_r9 ?R_r9 ?t_r9 ?k_r9 ?_ ?s_r9;(case F_r9 => k_asm);(case R_r9 => with_reducible assumption);(case t_r9 => assumption);(case k_r9 => omega);(case s_r9 => intro _;with_unfolding_all rfl);k_whole);intro qvI qrI;(try dsimp only at qrI);(try (obtain ⟨qtI, qeI⟩ := reads_strE qrI (by with_reducible assumption);subst qeI));(try dsimp only)))
  k_with "subscriptTail" => ((k_here;(with_reducible show wpAny _ _ (subscriptTail _ (PySem.Expr.Slice none (some _) none _) (Value.str _ _) _) _ _ _);(k_dflt (refine strCut1 (s := ⟨_, _, _, _, _⟩) (by assumption) (by assumption) ?hsz_r10 ?_));(case hsz_r10 => (rw [sizeLine_eq];omega));intro qh' qt' qk' qF' qN' qkK;(try dsimp only at qkK);(try dsimp only)))
  k_with "subscriptTail Name Slice str ref" => ((k_here;(with_reducible show wpAny _ _ (subscriptTail _ (PySem.Expr.Slice none (some _) none _) (Value.str _ _) _) _ _ _);(k_dflt (refine strCut1 (s := ⟨_, _, _, _, _⟩) (by assumption) (by assumption) ?hsz_r11 ?_));(case hsz_r11 => (rw [sizeLine_eq];omega));intro qh' qt' qk' qF' qN' qkK;(try dsimp only at qkK);(try dsimp only)))
  k_with "subscriptTail" => ((k_here;(with_reducible show wpAny _ _ (subscriptTail _ (PySem.Expr.Slice (some _) none none _) _ (Value.ref _)) _ _ _);(k_dflt (refine' sliceTup1 (s := ⟨_, _, _, _, _⟩) ?F_r12 ?N_r12 ?R_r12 ?t_r12 ?k_r12 ?z_r12 ?_ ?hs_r12 ?hg_r12;(case F_r12 => k_asm);(case N_r12 => k_asm);(case R_r12 => with_reducible assumption);(case t_r12 => assumption);(case k_r12 => omega);(case z_r12 => omega);(case hs_r12 => intro _;with_unfolding_all rfl);(case hg_r12 => intro _ _;with_unfolding_all rfl)));intro qD' qh' qvs' qF' qN' qR' ql1 qe1;(try k_lt ql1);(try dsimp only)))
  k_with "call builtin:list.extend" => ((k_here;(k_dflt (refine' extLst ?F_r13 ?N_r13 ?b_r13 ?U_r13 ?z_r13 ?_;(case F_r13 => k_asm);(case N_r13 => k_asm);(case b_r13 => k_mem);(case U_r13 => intro qk9;k_upd);(case z_r13 => omega)));intro qh' qk' qF' qN';(try dsimp only)))
  k_with "good" => (first | exact good_shaped (by assumption) (by omega) | exact good_shaped (good_filter (by assumption)) (by omega))
  k_with "units" => (first | exact addLt (by assumption) (by decide) | exact addLt1 (c := 3) (by assumption) (by decide) | exact addLt1 (c := 1) (by assumption) (by decide) | exact addLt2 (c := 3) (d := 1) (by assumption) (by decide) | exact addLt2 (c := 3) (d := 3) (by assumption) (by decide) | omega | ((try simp only [Around.deeper_units, units_in1]);omega))
  k_with "compareOp NotEq ref ref" => ((k_here;(with_reducible show wpAny _ _ (compareOp CmpOp.NotEq (Value.ref _) (Value.ref _)) _ _ _);k_dflt (refine' neNil ?F_r16 ?N_r16 ?E_r16 ?RA_r16 ?D_r16 ?a_r16 ?u_r16 ?_;(case F_r16 => k_asm);(case N_r16 => k_asm);(case E_r16 => k_mem);(case D_r16 => k_mem);(case RA_r16 => with_reducible assumption);(case a_r16 => walk_at "good");(case u_r16 => walk_at "units");k_whole);(try dsimp only)))
  k_with "compareOp Eq ref ref" => ((k_here;(with_reducible show wpAny _ _ (compareOp CmpOp.Eq (Value.ref _) (Value.ref _)) _ _ _);k_dflt (refine' eqNil ?F_r17 ?N_r17 ?E_r17 ?RA_r17 ?D_r17 ?a_r17 ?u_r17 ?_;(case F_r17 => k_asm);(case N_r17 => k_asm);(case E_r17 => k_mem);(case D_r17 => k_mem);(case RA_r17 => with_reducible assumption);(case a_r17 => walk_at "good");(case u_r17 => walk_at "units");k_whole);(try dsimp only)))
  k_with "call type:set" => ((k_here;(with_reducible show wpAny _ _ (call (Value.type "set") [Value.ref _]) _ _ _);k_dflt (refine' setStrs ?hh_r18 ?F_r18 ?N_r18 ?D_r18 ?S_r18 ?z_r18 ?_;(case hh_r18 => assumption);(case F_r18 => k_asm);(case N_r18 => k_asm);(case D_r18 => k_mem);(case S_r18 => with_reducible assumption);(case z_r18 => with_reducible assumption));intro qD' qh' qo' qtk' qF' qN' ql1 qsO;(try k_lt ql1);(try dsimp only)))
  k_with "call builtin:sorted" => ((k_here;(with_reducible show wpAny _ _ (call (Value.builtin "sorted") [Value.ref _]) _ _ _);k_dflt (refine' sortedSet ?hh_r19 ?F_r19 ?N_r19 ?D_r19 ?S_r19 ?z_r19 ?_;(case hh_r19 => assumption);(case F_r19 => k_asm);(case N_r19 => k_asm);(case D_r19 => k_mem);(case S_r19 => with_reducible assumption);(case z_r19 => with_reducible assumption));intro qD' qh' qtk' qdr' qvs' qss' qk' qF' qN' ql1 qsA qpA qsS;(try k_lt ql1);(try dsimp only)))
  k_with "compareOp Eq ref ref" => ((k_here;(with_reducible show wpAny _ _ (compareOp CmpOp.Eq (Value.ref _) (Value.ref _)) _ _ _);k_dflt (refine' eqNames ?F_r20 ?N_r20 ?D_r20 ?E_r20 ?SD_r20 ?SE_r20 ?p_r20 ?s_r20 ?ok_r20 ?z_r20 ?u_r20 ?_;(case F_r20 => k_asm);(case N_r20 => k_asm);(case D_r20 => k_mem);(case E_r20 => k_mem);(case SD_r20 => with_reducible assumption);(case SE_r20 => with_reducible assumption);(case p_r20 => with_reducible assumption);(case s_r20 => with_reducible assumption);(case ok_r20 => with_reducible assumption);(case z_r20 => with_reducible assumption);(case u_r20 => walk_at "units");k_whole);(try dsimp only)))
  k_with "room" => (first | exact addLt (by assumption) (by decide) | exact addLt1 (c := 1) (by assumption) (by decide) | exact addLt2 (c := 1) (d := 1) (by assumption) (by decide) | omega | ((try simp only [depth_deeper, depth_in1]);omega))
  k_with "call ref" => ((k_here;k_dflt (refine' plain_ok ?R_r22 ?z_r22 _ _ _ _ _ _ _ _ _ _ ?h1_r22 ?h2_r22 ?h3_r22 ?h4_r22 ?h5_r22 ?h6_r22 ?B_r22 ?F_r22 ?X_r22 ?T_r22 ?_;(case R_r22 => walk_at "reads");(case z_r22 => first | assumption | omega | (simp only [sz, szAll];omega));(case h1_r22 => assumption);(case h2_r22 => first | exact Around.frames_deeper (Below.stack (by assumption)) | assumption);(case h3_r22 => exact rfl);(case h4_r22 => exact rfl);(case h5_r22 => walk_at "room");(case h6_r22 => walk_at "units");(case B_r22 => assumption);(case F_r22 => assumption);(case X_r22 => assumption);(case T_r22 => assumption));intro qv9 qh' qtk' qkK;(try dsimp only at qkK);(rename News _ _ _ _ => qN9);(have qN' := Keep.news qkK qN9);(rename Fr _ _ _ _ => qF9);(have qF9k := fun (_ : True) => Keep.fr qkK qF9);intro qhF' qhP';(have qF' := qF9k True.intro);clear qF9k;(try subst qhP');(try dsimp only)))
  k_with "call ref" => ((k_here;k_dflt (refine' places_ok ?R_r23 ?g_r23 ?sm_r23 _ _ _ _ _ _ _ _ _ _ ?h1_r23 ?h2_r23 ?h3_r23 ?h4_r23 ?h5_r23 ?h6_r23 ?B_r23 ?F_r23 ?X_r23 ?T_r23 ?_;(case R_r23 => walk_at "reads");(case g_r23 => first | assumption | exact good_kids (by assumption) _ (kid_mem (by omega)));(case sm_r23 => assumption);(case h1_r23 => assumption);(case h2_r23 => first | exact Around.frames_deeper (Below.stack (by assumption)) | assumption);(case h3_r23 => exact rfl);(case h4_r23 => exact rfl);(case h5_r23 => walk_at "room");(case h6_r23 => walk_at "units");(case B_r23 => assumption);(case F_r23 => assumption);(case X_r23 => assumption);(case T_r23 => assumption));intro qv9 qh' qtk' qdr' qkK;(try dsimp only at qkK);(rename News _ _ _ _ => qN9);(have qN' := Keep.news qkK qN9);(rename Fr _ _ _ _ => qF9);(have qF9k := fun (_ : True) => Keep.fr qkK qF9);intro qhF' qhP';(have qF' := qF9k True.intro);clear qF9k;(try subst qhP');(try dsimp only)))
  k_with "unpackItems ref" => ((k_here;k_dflt (refine' unpackTup ?F_r24 ?N_r24 ?hh_r24 ?ht_r24 ?hn_r24 ?_;(case F_r24 => k_asm);(case N_r24 => k_asm);(case hh_r24 => assumption);(case ht_r24 => kun_tup);(case hn_r24 => exact rfl);k_whole);intro qh' qF' qN' qkK;(try dsimp only)))
  k_with "go2" => (repeat' ((fail_if_success (with_reducible show Exists _));(fail_if_success (with_reducible show _ ∧ Keeps _ _));(fail_if_success (with_reducible show wpAny _ _ (eval (PySem.Expr.ListComp _ _ _ _) _) _ _ _));(fail_if_success (with_reducible show wpAny _ _ (exec (Stmt.Assign _ (PySem.Expr.ListComp _ _ _ _) _) _) _ _ _));(fail_if_success (with_reducible show wpAny _ _ (exec (Stmt.For _ _ _ _ _) _) _ _ _));first | (k_unfold;(try dsimp only)) | walk1 | (dsimp only;walk1) | fail "no step"))
  k_with "call ref" => ((k_here;k_dflt (refine' form_ok ?R_r26 ?g_r26 ?z_r26 ?sm_r26 _ _ _ _ _ _ _ _ _ _ ?h1_r26 ?h2_r26 ?h3_r26 ?h4_r26 ?h5_r26 ?h6_r26 ?B_r26 ?F_r26 ?X_r26 ?T_r26 ?_;(case R_r26 => walk_at "reads");(case g_r26 => assumption);(case z_r26 => assumption);(case sm_r26 => assumption);(case h1_r26 => assumption);(case h2_r26 => first | exact Around.frames_deeper (Below.stack (by assumption)) | assumption);(case h3_r26 => exact rfl);(case h4_r26 => exact rfl);(case h5_r26 => walk_at "room");(case h6_r26 => walk_at "units");(case B_r26 => assumption);(case F_r26 => assumption);(case X_r26 => assumption);(case T_r26 => assumption));intro qv9 qh' qtk' qdr' qkK;(try dsimp only at qkK);(rename News _ _ _ _ => qN9);(have qN' := Keep.news qkK qN9);(rename Fr _ _ _ _ => qF9);(have qF9k := fun (_ : True) => Keep.fr qkK qF9);intro qhF' qhP';(have qF' := qF9k True.intro);clear qF9k;(try subst qhP');(try dsimp only)))
  k_with "assign Tuple" => ((k_here;k_dflt (refine' asgPair ?F_r27 ?N_r27 ?hh_r27 ?ht_r27 ?_;(case F_r27 => k_asm);(case N_r27 => k_asm);(case hh_r27 => assumption);(case ht_r27 => kun_tup);k_whole);intro qh' qF' qN' qkK;(try dsimp only)))
  k_with "go3" => (repeat' ((fail_if_success (with_reducible show Exists _));(fail_if_success (with_reducible show _ ∧ Keeps _ _));(fail_if_success (with_reducible show wpAny _ _ (exec (Stmt.Assign _ (PySem.Expr.ListComp _ _ _ _) _) _) _ _ _));(fail_if_success (with_reducible show wpAny _ _ (exec (Stmt.For _ _ _ _ _) _) _ _ _));first | (k_unfold;(try dsimp only)) | walk1 | (dsimp only;walk1) | fail "no step"))
  k_with "call type:enumerate" => ((k_here;(with_reducible show wpAny _ _ (call (Value.type "enumerate") [Value.ref _]) _ _ _);k_dflt (refine' enumT ?F_r29 ?N_r29 ?m_r29 ?_;(case F_r29 => k_asm);(case N_r29 => k_asm);(case m_r29 => k_mem));intro qe qh' qF' qN' qkE;(try dsimp only)))
  k_with "go4" => (repeat' ((fail_if_success (with_reducible show Exists _));(fail_if_success (with_reducible show _ ∧ Keeps _ _));(fail_if_success (with_reducible show wpAny _ _ (eval (PySem.Expr.ListComp _ _ _ _) _) _ _ _));(fail_if_success (with_reducible show wpAny _ _ (exec (Stmt.Assign _ (PySem.Expr.ListComp _ _ _ _) _) _) _ _ _));first | (k_unfold;(try dsimp only)) | walk1 | (dsimp only;walk1) | fail "no step"))
  k_with "k_ne" => ((refine neN ?_;(try dsimp only);first | assumption | exact Ne.symm (by assumption) | exact Nat.ne_of_lt (by assumption) | exact Nat.ne_of_gt (by assumption) | exact (And.left (by assumption)) | exact (Ne.symm (And.left (by assumption))) | exact (Nat.ne_of_lt (And.left (by assumption))) | exact (Nat.ne_of_gt (And.left (by assumption))) | exact (And.left (And.right (by assumption))) | exact (Ne.symm (And.left (And.right (by assumption)))) | exact (Nat.ne_of_lt (And.left (And.right (by assumption)))) | exact (Nat.ne_of_gt (And.left (And.right (by assumption)))) | exact (And.right (by assumption)) | exact (Ne.symm (And.right (by assumption))) | exact (Nat.ne_of_lt (And.right (by assumption))) | exact (Nat.ne_of_gt (And.right (by assumption))) | exact (And.left (And.right (And.right (by assumption)))) | exact (Ne.symm (And.left (And.right (And.right (by assumption))))) | exact (Nat.ne_of_lt (And.left (And.right (And.right (by assumption))))) | exact (Nat.ne_of_gt (And.left (And.right (And.right (by assumption))))) | exact (And.right (And.right (by assumption))) | exact (Ne.symm (And.right (And.right (by assumption)))) | exact (Nat.ne_of_lt (And.right (And.right (by assumption)))) | exact (Nat.ne_of_gt (And.right (And.right (by assumption)))) | exact (And.left (And.right (And.right (And.right (by assumption))))) | exact (Ne.symm (And.left (And.right (And.right (And.right (by assumption)))))) | exact (Nat.ne_of_lt (And.left (And.right (And.right (And.right (by assumption)))))) | exact (Nat.ne_of_gt (And.left (And.right (And.right (And.right (by assumption)))))) | exact (And.right (And.right (And.right (by assumption)))) | exact (Ne.symm (And.right (And.right (And.right (by assumption))))) | exact (Nat.ne_of_lt (And.right (And.right (And.right (by assumption))))) | exact (Nat.ne_of_gt (And.right (And.right (And.right (by assumption))))) | exact (And.left (And.right (And.right (And.right (And.right (by assumption)))))) | exact (Ne.symm (And.left (And.right (And.right (And.right (And.right (by assumption))))))) | exact (Nat.ne_of_lt (And.left (And.right (And.right (And.right (And.right (by assumption))))))) | exact (Nat.ne_of_gt (And.left (And.right (And.right (And.right (And.right (by assumption))))))) | exact (And.right (And.right (And.right (And.right (by assumption))))) | exact (Ne.symm (And.right (And.right (And.right (And.right (by assumption)))))) | exact (Nat.ne_of_lt (And.right (And.right (And.right (And.right (by assumption)))))) | exact (Nat.ne_of_gt (And.right (And.right (And.right (And.right (by assumption)))))) | exact (And.left (And.right (And.right (And.right (And.right (And.right (by assumption))))))) | exact (Ne.symm (And.left (And.right (And.right (And.right (And.right (And.right (by assumption)))))))) | exact (Nat.ne_of_lt (And.left (And.right (And.right (And.right (And.right (And.right (by assumption)))))))) | exact (Nat.ne_of_gt (And.left (And.right (And.right (And.right (And.right (And.right (by assumption)))))))) | exact (And.right (And.right (And.right (And.right (And.right (by assumption)))))) | exact (Ne.symm (And.right (And.right (And.right (And.right (And.right (by assumption))))))) | exact (Nat.ne_of_lt (And.right (And.right (And.right (And.right (And.right (by assumption))))))) | exact (Nat.ne_of_gt (And.right (And.right (And.right (And.right (And.right (by assumption))))))) | exact (And.left (And.right (And.right (And.right (And.right (And.right (And.right (by assumption)))))))) | exact (Ne.symm (And.left (And.right (And.right (And.right (And.right (And.right (And.right (by assumption))))))))) | exact (Nat.ne_of_lt (And.left (And.right (And.right (And.right (And.right (And.right (And.right (by assumption))))))))) | exact (Nat.ne_of_gt (And.left (And.right (And.right (And.right (And.right (And.right (And.right (by assumption))))))))) | exact (And.right (And.right (And.right (And.right (And.right (And.right (by assumption))))))) | exact (Ne.symm (And.right (And.right (And.right (And.right (And.right (And.right (by assumption)))))))) | exact (Nat.ne_of_lt (And.right (And.right (And.right (And.right (And.right (And.right (by assumption)))))))) | exact (Nat.ne_of_gt (And.right (And.right (And.right (And.right (And.right (And.right (by assumption)))))))) | omega))
  trivial
noncomputable def bareKind (x : Str) : Prop := x = Str.ofString "same" ∨ x = Str.ofString "told" ∨ x = Str.ofString "rule"
namespace parts_ok_n
noncomputable def Wk (w : World) (mean : ExcName → Option Value) (mg : Str → Option Value) (mb : Str → Option Value) (s : Shared) (d : PyData) (A : Around) (base : Heap) (outer : List Env) (L' : Addr) (h₁ : Heap) : Prop := ∀ (v : Value) (R : Reads s.heap v d []) (ht : isTup d = true) (hl : 2 ≤ (kids d).length) (hb : ∃ x, kid d 0 = .str x ∧ bareKind x), EntP (PostF0 s (fun h' r => ∃ T, r = .ref T ∧ h'.get? T = some { cls := .type "tuple", data := .seq #[] } ∧ s.heap.get? T = none)) w mean mg mb s A base outer L' h₁ 1 100 [(Str.ofString "paper", v)] (envAt 78 L') (stAt 78)
theorem inhab : Nonempty ((World) × (ExcName → Option Value) × (Str → Option Value) × (Str → Option Value) × (Shared) × (PyData) × (Around) × (Heap) × (List Env) × (Addr) × (Heap)) := ⟨((aWorld 1), (fun _ => none), (fun _ => none), (fun _ => none), ({}), (.none), ({}), ({}), ([]), (0), ({}))⟩
noncomputable def cc : (World) × (ExcName → Option Value) × (Str → Option Value) × (Str → Option Value) × (Shared) × (PyData) × (Around) × (Heap) × (List Env) × (Addr) × (Heap) := pickA inhab fun c => Wk c.1 c.2.1 c.2.2.1 c.2.2.2.1 c.2.2.2.2.1 c.2.2.2.2.2.1 c.2.2.2.2.2.2.1 c.2.2.2.2.2.2.2.1 c.2.2.2.2.2.2.2.2.1 c.2.2.2.2.2.2.2.2.2.1 c.2.2.2.2.2.2.2.2.2.2
@[irreducible] noncomputable def w : World := cc.1
@[irreducible] noncomputable def mean : ExcName → Option Value := cc.2.1
@[irreducible] noncomputable def mg : Str → Option Value := cc.2.2.1
@[irreducible] noncomputable def mb : Str → Option Value := cc.2.2.2.1
@[irreducible] noncomputable def s : Shared := cc.2.2.2.2.1
@[irreducible] noncomputable def d : PyData := cc.2.2.2.2.2.1
@[irreducible] noncomputable def A : Around := cc.2.2.2.2.2.2.1
@[irreducible] noncomputable def base : Heap := cc.2.2.2.2.2.2.2.1
@[irreducible] noncomputable def outer : List Env := cc.2.2.2.2.2.2.2.2.1
@[irreducible] noncomputable def L' : Addr := cc.2.2.2.2.2.2.2.2.2.1
@[irreducible] noncomputable def h₁ : Heap := cc.2.2.2.2.2.2.2.2.2.2
theorem here : Wk w mean mg mb s d A base outer L' h₁ := by
  (have hFill : ∀ P : Params, (Mine.hd.heap_39 P = Mine.hd.heap_39 P) ∧ PySem.Challenge.rw_rg0113_01 = PySem.Challenge.rw_rg0113_01 := (by k_fill; exact fillK); clear hFill)
  unfold Wk
  intro v R ht hl hb
  obtain ⟨x, hx, hb⟩ := hb
  refine lit_at (f := 78) (L := L') (p := EntP (PostF0 s (fun h' r => ∃ T, r = .ref T ∧ h'.get? T = some { cls := .type "tuple", data := .seq #[] } ∧ s.heap.get? T = none)) w mean mg mb s A base outer L' h₁ 1 100 [(Str.ofString "paper", v)]) (by k_is) ?_
  intro hh hd hu F1 B1 X1 T1 N1
  (try dsimp only)
  rcases hb with rfl | rfl | rfl
  all_goals (walk_at "go"; all_goals (try k_data))
  all_goals (try dsimp only)
  all_goals (rename News _ _ _ _ => NN; exact ⟨_, _, _, rfl, Fr.keep (by assumption), rfl, _, rfl, (NN _ (List.Mem.head _)).1, (NN _ (List.Mem.head _)).2.2⟩)
theorem all : ∀ c : (World) × (ExcName → Option Value) × (Str → Option Value) × (Str → Option Value) × (Shared) × (PyData) × (Around) × (Heap) × (List Env) × (Addr) × (Heap), Wk c.1 c.2.1 c.2.2.1 c.2.2.2.1 c.2.2.2.2.1 c.2.2.2.2.2.1 c.2.2.2.2.2.2.1 c.2.2.2.2.2.2.2.1 c.2.2.2.2.2.2.2.2.1 c.2.2.2.2.2.2.2.2.2.1 c.2.2.2.2.2.2.2.2.2.2 := pickA_all (h := inhab) (p := fun c => Wk c.1 c.2.1 c.2.2.1 c.2.2.2.1 c.2.2.2.2.1 c.2.2.2.2.2.1 c.2.2.2.2.2.2.1 c.2.2.2.2.2.2.2.1 c.2.2.2.2.2.2.2.2.1 c.2.2.2.2.2.2.2.2.2.1 c.2.2.2.2.2.2.2.2.2.2) (by with_unfolding_all exact @here)
end parts_ok_n
theorem parts_ok {w : World} {mean : ExcName → Option Value} {mg mb : Str → Option Value} {s : Shared} {v : Value} {d : PyData} (R : Reads s.heap v d []) (ht : isTup d = true) (hl : 2 ≤ (kids d).length) (hb : ∃ x, kid d 0 = .str x ∧ bareKind x) :
    Pure0 w mean mg mb 78 [v] 1 100 s (fun h' r => ∃ T, r = .ref T ∧ h'.get? T = some { cls := .type "tuple", data := .seq #[] } ∧ s.heap.get? T = none) := by
  (have hFill : ∀ P : Params, (Mine.hd.heap_39 P = Mine.hd.heap_39 P) ∧ PySem.Challenge.rw_rg0113_01 = PySem.Challenge.rw_rg0113_01 := (by k_fill; exact fillK); clear hFill)
  k_dflt (refine' pure_enter0 [(Str.ofString "paper", v)] ?k6 ?k7 ?k9 ?kB (by decide) ?c5 ?c2 ?c3 ?c4 ?_; (case k6 => k_is); (case k7 => k_is); (case k9 => exact BindsTo.of_eq rfl); (case kB => exact locs rfl); (case c5 => decide); (case c2 => exact rfl); (case c3 => exact rfl); (case c4 => exact rfl))
  intro A base outer L' h₁ hh hd hu F1 B1 X1 T1 N1
  exact parts_ok_n.all (w, mean, mg, mb, s, d, A, base, outer, L', h₁) v R ht hl hb hh hd hu F1 B1 X1 T1 N1
end
section
theorem reg_exc0 : True := by
  k_with_none
  k_with "go" => (repeat' ((fail_if_success (with_reducible show Exists _));(fail_if_success (with_reducible show _ ∧ Keeps _ _));(fail_if_success (with_reducible show wpAny _ _ (eval (PySem.Expr.ListComp _ _ _ _) _) _ _ _));(fail_if_success (with_reducible show wpAny _ _ (exec (Stmt.Assign _ (PySem.Expr.ListComp _ _ _ _) _) _) _ _ _));(fail_if_success (with_reducible show wpAny _ _ (exec (Stmt.While _ _ _ _) _) _ _ _));(fail_if_success (with_reducible show wpAny _ _ (exec (Stmt.For _ _ _ _ _) _) _ _ _));first | (k_unfold;(try dsimp only)) | walk1 | (dsimp only;walk1) | fail "no step"))
  k_with "reads" => (first | with_reducible assumption | exact Reads.keeps (Fr.keep (by k_asm)) (by with_reducible assumption) | (refine' readsNew1 ?rF_r1 ?rN_r1 ?rM_r1 ?rR_r1;(case rF_r1 => k_asm);(case rN_r1 => k_asm);(case rM_r1 => k_mem);(case rR_r1 => with_reducible assumption)))
  k_with "call builtin:len" => ((k_here;(with_reducible show wpAny _ _ (call _ [Value.ref _]) _ _ _);k_dflt (refine' lenLst ?N_r2 ?m_r2 ?z_r2 ?_;(case N_r2 => k_asm);(case m_r2 => k_mem);(case z_r2 => first | assumption | omega);k_whole);intro _ _))
  k_with "call builtin:len" => ((k_here;k_dflt (refine' lenTup ?R_r3 ?t_r3 ?z_r3 ?_;(case R_r3 => walk_at "reads");(case t_r3 => assumption);(case z_r3 => first | assumption | omega);k_whole);intro _ _))
  k_with "call builtin:list.pop" => ((k_here;(with_reducible show wpAny _ _ (call _ [Value.ref _]) _ _ _);k_dflt (refine' popLst ?F_r4 ?N_r4 ?U_r4 ?z_r4 ?_;(case F_r4 => k_asm);(case N_r4 => k_asm);(case U_r4 => k_upd);(case z_r4 => first | assumption | omega);k_whole);intro qh' qF' qN'))
  k_with "call builtin:isinstance" => ((k_here;(with_reducible show wpAny _ _ (call _ [_, Value.type "tuple"]) _ _ _);k_dflt (refine' isiTup ?R_r5 ?_ ?_;(case R_r5 => walk_at "reads"));all_goals (intro qhI;(try intro qtkI);(try dsimp only))))
  k_with "call builtin:isinstance" => ((k_here;(with_reducible show wpAny _ _ (call _ [_, Value.type "str"]) _ _ _);k_dflt (refine' isiStr ?R_r6 ?_ ?_;(case R_r6 => walk_at "reads"));all_goals (first | (intro qxI qtI qeI qhI qlI;(try subst qeI);(try dsimp only)) | (intro qhI qtkI;(try dsimp only)))))
  k_with "subscriptTail" => ((k_here;(with_reducible show wpAny _ _ (subscriptTail _ _ _ (Value.int 0 _)) _ _ _);k_dflt (refine' itemB0 ?F_r7 ?R_r7 ?t_r7 ?k_r7 ?_ ?s_r7;(case F_r7 => k_asm);(case R_r7 => with_reducible assumption);(case t_r7 => assumption);(case k_r7 => omega);(case s_r7 => intro _;with_unfolding_all rfl);k_whole);intro qvI qrI;(try dsimp only at qrI);(try (obtain ⟨qtI, qeI⟩ := reads_strE qrI (by with_reducible assumption);subst qeI));(try dsimp only)))
  k_with "subscriptTail" => ((k_here;(with_reducible show wpAny _ _ (subscriptTail _ _ _ (Value.int 1 _)) _ _ _);k_dflt (refine' itemB1 ?F_r8 ?R_r8 ?t_r8 ?k_r8 ?_ ?s_r8;(case F_r8 => k_asm);(case R_r8 => with_reducible assumption);(case t_r8 => assumption);(case k_r8 => omega);(case s_r8 => intro _;with_unfolding_all rfl);k_whole);intro qvI qrI;(try dsimp only at qrI);(try (obtain ⟨qtI, qeI⟩ := reads_strE qrI (by with_reducible assumption);subst qeI));(try dsimp only)))
  k_with "subscriptTail" => ((k_here;(with_reducible show wpAny _ _ (subscriptTail _ _ _ (Value.int 2 _)) _ _ _);k_dflt (refine' itemB2 ?F_r9 ?R_r9 ?t_r9 ?k_r9 ?_ ?s_r9;(case F_r9 => k_asm);(case R_r9 => with_reducible assumption);(case t_r9 => assumption);(case k_r9 => omega);(case s_r9 => intro _;with_unfolding_all rfl);k_whole);intro qvI qrI;(try dsimp only at qrI);(try (obtain ⟨qtI, qeI⟩ := reads_strE qrI (by with_reducible assumption);subst qeI));(try dsimp only)))
  k_with "subscriptTail" => ((k_here;(with_reducible show wpAny _ _ (subscriptTail _ (PySem.Expr.Slice none (some _) none _) (Value.str _ _) _) _ _ _);(k_dflt (refine strCut1 (s := ⟨_, _, _, _, _⟩) (by assumption) (by assumption) ?hsz_r10 ?_));(case hsz_r10 => (rw [sizeLine_eq];omega));intro qh' qt' qk' qF' qN' qkK;(try dsimp only at qkK);(try dsimp only)))
  k_with "subscriptTail Name Slice str ref" => ((k_here;(with_reducible show wpAny _ _ (subscriptTail _ (PySem.Expr.Slice none (some _) none _) (Value.str _ _) _) _ _ _);(k_dflt (refine strCut1 (s := ⟨_, _, _, _, _⟩) (by assumption) (by assumption) ?hsz_r11 ?_));(case hsz_r11 => (rw [sizeLine_eq];omega));intro qh' qt' qk' qF' qN' qkK;(try dsimp only at qkK);(try dsimp only)))
  k_with "subscriptTail" => ((k_here;(with_reducible show wpAny _ _ (subscriptTail _ (PySem.Expr.Slice (some _) none none _) _ (Value.ref _)) _ _ _);(k_dflt (refine' sliceTup1 (s := ⟨_, _, _, _, _⟩) ?F_r12 ?N_r12 ?R_r12 ?t_r12 ?k_r12 ?z_r12 ?_ ?hs_r12 ?hg_r12;(case F_r12 => k_asm);(case N_r12 => k_asm);(case R_r12 => with_reducible assumption);(case t_r12 => assumption);(case k_r12 => omega);(case z_r12 => omega);(case hs_r12 => intro _;with_unfolding_all rfl);(case hg_r12 => intro _ _;with_unfolding_all rfl)));intro qD' qh' qvs' qF' qN' qR' ql1 qe1;(try k_lt ql1);(try dsimp only)))
  k_with "call builtin:list.extend" => ((k_here;(k_dflt (refine' extLst ?F_r13 ?N_r13 ?b_r13 ?U_r13 ?z_r13 ?_;(case F_r13 => k_asm);(case N_r13 => k_asm);(case b_r13 => k_mem);(case U_r13 => intro qk9;k_upd);(case z_r13 => omega)));intro qh' qk' qF' qN';(try dsimp only)))
  k_with "good" => (first | exact good_shaped (by assumption) (by omega) | exact good_shaped (good_filter (by assumption)) (by omega))
  k_with "units" => (first | exact addLt (by assumption) (by decide) | exact addLt1 (c := 3) (by assumption) (by decide) | exact addLt1 (c := 1) (by assumption) (by decide) | exact addLt2 (c := 3) (d := 1) (by assumption) (by decide) | exact addLt2 (c := 3) (d := 3) (by assumption) (by decide) | omega | ((try simp only [Around.deeper_units, units_in1]);omega))
  k_with "compareOp NotEq ref ref" => ((k_here;(with_reducible show wpAny _ _ (compareOp CmpOp.NotEq (Value.ref _) (Value.ref _)) _ _ _);k_dflt (refine' neNil ?F_r16 ?N_r16 ?E_r16 ?RA_r16 ?D_r16 ?a_r16 ?u_r16 ?_;(case F_r16 => k_asm);(case N_r16 => k_asm);(case E_r16 => k_mem);(case D_r16 => k_mem);(case RA_r16 => with_reducible assumption);(case a_r16 => walk_at "good");(case u_r16 => walk_at "units");k_whole);(try dsimp only)))
  k_with "compareOp Eq ref ref" => ((k_here;(with_reducible show wpAny _ _ (compareOp CmpOp.Eq (Value.ref _) (Value.ref _)) _ _ _);k_dflt (refine' eqNil ?F_r17 ?N_r17 ?E_r17 ?RA_r17 ?D_r17 ?a_r17 ?u_r17 ?_;(case F_r17 => k_asm);(case N_r17 => k_asm);(case E_r17 => k_mem);(case D_r17 => k_mem);(case RA_r17 => with_reducible assumption);(case a_r17 => walk_at "good");(case u_r17 => walk_at "units");k_whole);(try dsimp only)))
  k_with "call type:set" => ((k_here;(with_reducible show wpAny _ _ (call (Value.type "set") [Value.ref _]) _ _ _);k_dflt (refine' setStrs ?hh_r18 ?F_r18 ?N_r18 ?D_r18 ?S_r18 ?z_r18 ?_;(case hh_r18 => assumption);(case F_r18 => k_asm);(case N_r18 => k_asm);(case D_r18 => k_mem);(case S_r18 => with_reducible assumption);(case z_r18 => with_reducible assumption));intro qD' qh' qo' qtk' qF' qN' ql1 qsO;(try k_lt ql1);(try dsimp only)))
  k_with "call builtin:sorted" => ((k_here;(with_reducible show wpAny _ _ (call (Value.builtin "sorted") [Value.ref _]) _ _ _);k_dflt (refine' sortedSet ?hh_r19 ?F_r19 ?N_r19 ?D_r19 ?S_r19 ?z_r19 ?_;(case hh_r19 => assumption);(case F_r19 => k_asm);(case N_r19 => k_asm);(case D_r19 => k_mem);(case S_r19 => with_reducible assumption);(case z_r19 => with_reducible assumption));intro qD' qh' qtk' qdr' qvs' qss' qk' qF' qN' ql1 qsA qpA qsS;(try k_lt ql1);(try dsimp only)))
  k_with "compareOp Eq ref ref" => ((k_here;(with_reducible show wpAny _ _ (compareOp CmpOp.Eq (Value.ref _) (Value.ref _)) _ _ _);k_dflt (refine' eqNames ?F_r20 ?N_r20 ?D_r20 ?E_r20 ?SD_r20 ?SE_r20 ?p_r20 ?s_r20 ?ok_r20 ?z_r20 ?u_r20 ?_;(case F_r20 => k_asm);(case N_r20 => k_asm);(case D_r20 => k_mem);(case E_r20 => k_mem);(case SD_r20 => with_reducible assumption);(case SE_r20 => with_reducible assumption);(case p_r20 => with_reducible assumption);(case s_r20 => with_reducible assumption);(case ok_r20 => with_reducible assumption);(case z_r20 => with_reducible assumption);(case u_r20 => walk_at "units");k_whole);(try dsimp only)))
  k_with "room" => (first | exact addLt (by assumption) (by decide) | exact addLt1 (c := 1) (by assumption) (by decide) | exact addLt2 (c := 1) (d := 1) (by assumption) (by decide) | omega | ((try simp only [depth_deeper, depth_in1]);omega))
  k_with "call ref" => ((k_here;k_dflt (refine' plain_ok ?R_r22 ?z_r22 _ _ _ _ _ _ _ _ _ _ ?h1_r22 ?h2_r22 ?h3_r22 ?h4_r22 ?h5_r22 ?h6_r22 ?B_r22 ?F_r22 ?X_r22 ?T_r22 ?_;(case R_r22 => walk_at "reads");(case z_r22 => first | assumption | omega | (simp only [sz, szAll];omega));(case h1_r22 => assumption);(case h2_r22 => first | exact Around.frames_deeper (Below.stack (by assumption)) | assumption);(case h3_r22 => exact rfl);(case h4_r22 => exact rfl);(case h5_r22 => walk_at "room");(case h6_r22 => walk_at "units");(case B_r22 => assumption);(case F_r22 => assumption);(case X_r22 => assumption);(case T_r22 => assumption));intro qv9 qh' qtk' qkK;(try dsimp only at qkK);(rename News _ _ _ _ => qN9);(have qN' := Keep.news qkK qN9);(rename Fr _ _ _ _ => qF9);(have qF9k := fun (_ : True) => Keep.fr qkK qF9);intro qhF' qhP';(have qF' := qF9k True.intro);clear qF9k;(try subst qhP');(try dsimp only)))
  k_with "call ref" => ((k_here;k_dflt (refine' places_ok ?R_r23 ?g_r23 ?sm_r23 _ _ _ _ _ _ _ _ _ _ ?h1_r23 ?h2_r23 ?h3_r23 ?h4_r23 ?h5_r23 ?h6_r23 ?B_r23 ?F_r23 ?X_r23 ?T_r23 ?_;(case R_r23 => walk_at "reads");(case g_r23 => first | assumption | exact good_kids (by assumption) _ (kid_mem (by omega)));(case sm_r23 => assumption);(case h1_r23 => assumption);(case h2_r23 => first | exact Around.frames_deeper (Below.stack (by assumption)) | assumption);(case h3_r23 => exact rfl);(case h4_r23 => exact rfl);(case h5_r23 => walk_at "room");(case h6_r23 => walk_at "units");(case B_r23 => assumption);(case F_r23 => assumption);(case X_r23 => assumption);(case T_r23 => assumption));intro qv9 qh' qtk' qdr' qkK;(try dsimp only at qkK);(rename News _ _ _ _ => qN9);(have qN' := Keep.news qkK qN9);(rename Fr _ _ _ _ => qF9);(have qF9k := fun (_ : True) => Keep.fr qkK qF9);intro qhF' qhP';(have qF' := qF9k True.intro);clear qF9k;(try subst qhP');(try dsimp only)))
  k_with "unpackItems ref" => ((k_here;k_dflt (refine' unpackTup ?F_r24 ?N_r24 ?hh_r24 ?ht_r24 ?hn_r24 ?_;(case F_r24 => k_asm);(case N_r24 => k_asm);(case hh_r24 => assumption);(case ht_r24 => kun_tup);(case hn_r24 => exact rfl);k_whole);intro qh' qF' qN' qkK;(try dsimp only)))
  k_with "go2" => (repeat' ((fail_if_success (with_reducible show Exists _));(fail_if_success (with_reducible show _ ∧ Keeps _ _));(fail_if_success (with_reducible show wpAny _ _ (eval (PySem.Expr.ListComp _ _ _ _) _) _ _ _));(fail_if_success (with_reducible show wpAny _ _ (exec (Stmt.Assign _ (PySem.Expr.ListComp _ _ _ _) _) _) _ _ _));(fail_if_success (with_reducible show wpAny _ _ (exec (Stmt.For _ _ _ _ _) _) _ _ _));first | (k_unfold;(try dsimp only)) | walk1 | (dsimp only;walk1) | fail "no step"))
  k_with "call ref" => ((k_here;k_dflt (refine' form_ok ?R_r26 ?g_r26 ?z_r26 ?sm_r26 _ _ _ _ _ _ _ _ _ _ ?h1_r26 ?h2_r26 ?h3_r26 ?h4_r26 ?h5_r26 ?h6_r26 ?B_r26 ?F_r26 ?X_r26 ?T_r26 ?_;(case R_r26 => walk_at "reads");(case g_r26 => assumption);(case z_r26 => assumption);(case sm_r26 => assumption);(case h1_r26 => assumption);(case h2_r26 => first | exact Around.frames_deeper (Below.stack (by assumption)) | assumption);(case h3_r26 => exact rfl);(case h4_r26 => exact rfl);(case h5_r26 => walk_at "room");(case h6_r26 => walk_at "units");(case B_r26 => assumption);(case F_r26 => assumption);(case X_r26 => assumption);(case T_r26 => assumption));intro qv9 qh' qtk' qdr' qkK;(try dsimp only at qkK);(rename News _ _ _ _ => qN9);(have qN' := Keep.news qkK qN9);(rename Fr _ _ _ _ => qF9);(have qF9k := fun (_ : True) => Keep.fr qkK qF9);intro qhF' qhP';(have qF' := qF9k True.intro);clear qF9k;(try subst qhP');(try dsimp only)))
  k_with "call ref" => ((k_here;k_dflt (refine' parts_ok ?R_r27 ?t_r27 ?l_r27 ?o_r27 _ _ _ _ _ _ _ _ _ _ ?h1_r27 ?h2_r27 ?h3_r27 ?h4_r27 ?h5_r27 ?h6_r27 ?B_r27 ?F_r27 ?X_r27 ?T_r27 ?_;(case R_r27 => walk_at "reads");(case t_r27 => assumption);(case l_r27 => assumption);(case o_r27 => assumption);(case h1_r27 => assumption);(case h2_r27 => first | exact Around.frames_deeper (Below.stack (by assumption)) | assumption);(case h3_r27 => exact rfl);(case h4_r27 => exact rfl);(case h5_r27 => walk_at "room");(case h6_r27 => walk_at "units");(case B_r27 => assumption);(case F_r27 => assumption);(case X_r27 => assumption);(case T_r27 => assumption));intro qv9 qh' qtk' qkK;(try dsimp only at qkK);(rename News _ _ _ _ => qN9);(have qN' := Keep.news qkK qN9);(rename Fr _ _ _ _ => qF9);(have qF9k := fun (_ : True) => Keep.fr qkK qF9);intro qhF' qhP';(have qF' := qF9k True.intro);clear qF9k;(obtain ⟨qT9, qe9, qo9, qn9⟩ := qhP';subst qe9);(try dsimp only at qn9);(have qN'' := newsAdd qF9 qN' qo9 qn9);(have qne9 := newsNe qN9 qn9);clear qN';(simp only [List.forall_mem_cons, List.not_mem_nil, false_implies, implies_true, and_true] at qne9);(try dsimp only)))
  k_with "assign Tuple" => ((k_here;k_dflt (refine' asgPair ?F_r28 ?N_r28 ?hh_r28 ?ht_r28 ?_;(case F_r28 => k_asm);(case N_r28 => k_asm);(case hh_r28 => assumption);(case ht_r28 => kun_tup);k_whole);intro qh' qF' qN' qkK;(try dsimp only)))
  k_with "go3" => (repeat' ((fail_if_success (with_reducible show Exists _));(fail_if_success (with_reducible show _ ∧ Keeps _ _));(fail_if_success (with_reducible show wpAny _ _ (exec (Stmt.Assign _ (PySem.Expr.ListComp _ _ _ _) _) _) _ _ _));(fail_if_success (with_reducible show wpAny _ _ (exec (Stmt.For _ _ _ _ _) _) _ _ _));first | (k_unfold;(try dsimp only)) | walk1 | (dsimp only;walk1) | fail "no step"))
  k_with "call type:enumerate" => ((k_here;(with_reducible show wpAny _ _ (call (Value.type "enumerate") [Value.ref _]) _ _ _);k_dflt (refine' enumT ?F_r30 ?N_r30 ?m_r30 ?_;(case F_r30 => k_asm);(case N_r30 => k_asm);(case m_r30 => k_mem));intro qe qh' qF' qN' qkE;(try dsimp only)))
  k_with "go4" => (repeat' ((fail_if_success (with_reducible show Exists _));(fail_if_success (with_reducible show _ ∧ Keeps _ _));(fail_if_success (with_reducible show wpAny _ _ (eval (PySem.Expr.ListComp _ _ _ _) _) _ _ _));(fail_if_success (with_reducible show wpAny _ _ (exec (Stmt.Assign _ (PySem.Expr.ListComp _ _ _ _) _) _) _ _ _));first | (k_unfold;(try dsimp only)) | walk1 | (dsimp only;walk1) | fail "no step"))
  k_with "k_ne" => ((refine neN ?_;(try dsimp only);first | assumption | exact Ne.symm (by assumption) | exact Nat.ne_of_lt (by assumption) | exact Nat.ne_of_gt (by assumption) | exact (And.left (by assumption)) | exact (Ne.symm (And.left (by assumption))) | exact (Nat.ne_of_lt (And.left (by assumption))) | exact (Nat.ne_of_gt (And.left (by assumption))) | exact (And.left (And.right (by assumption))) | exact (Ne.symm (And.left (And.right (by assumption)))) | exact (Nat.ne_of_lt (And.left (And.right (by assumption)))) | exact (Nat.ne_of_gt (And.left (And.right (by assumption)))) | exact (And.right (by assumption)) | exact (Ne.symm (And.right (by assumption))) | exact (Nat.ne_of_lt (And.right (by assumption))) | exact (Nat.ne_of_gt (And.right (by assumption))) | exact (And.left (And.right (And.right (by assumption)))) | exact (Ne.symm (And.left (And.right (And.right (by assumption))))) | exact (Nat.ne_of_lt (And.left (And.right (And.right (by assumption))))) | exact (Nat.ne_of_gt (And.left (And.right (And.right (by assumption))))) | exact (And.right (And.right (by assumption))) | exact (Ne.symm (And.right (And.right (by assumption)))) | exact (Nat.ne_of_lt (And.right (And.right (by assumption)))) | exact (Nat.ne_of_gt (And.right (And.right (by assumption)))) | exact (And.left (And.right (And.right (And.right (by assumption))))) | exact (Ne.symm (And.left (And.right (And.right (And.right (by assumption)))))) | exact (Nat.ne_of_lt (And.left (And.right (And.right (And.right (by assumption)))))) | exact (Nat.ne_of_gt (And.left (And.right (And.right (And.right (by assumption)))))) | exact (And.right (And.right (And.right (by assumption)))) | exact (Ne.symm (And.right (And.right (And.right (by assumption))))) | exact (Nat.ne_of_lt (And.right (And.right (And.right (by assumption))))) | exact (Nat.ne_of_gt (And.right (And.right (And.right (by assumption))))) | exact (And.left (And.right (And.right (And.right (And.right (by assumption)))))) | exact (Ne.symm (And.left (And.right (And.right (And.right (And.right (by assumption))))))) | exact (Nat.ne_of_lt (And.left (And.right (And.right (And.right (And.right (by assumption))))))) | exact (Nat.ne_of_gt (And.left (And.right (And.right (And.right (And.right (by assumption))))))) | exact (And.right (And.right (And.right (And.right (by assumption))))) | exact (Ne.symm (And.right (And.right (And.right (And.right (by assumption)))))) | exact (Nat.ne_of_lt (And.right (And.right (And.right (And.right (by assumption)))))) | exact (Nat.ne_of_gt (And.right (And.right (And.right (And.right (by assumption)))))) | exact (And.left (And.right (And.right (And.right (And.right (And.right (by assumption))))))) | exact (Ne.symm (And.left (And.right (And.right (And.right (And.right (And.right (by assumption)))))))) | exact (Nat.ne_of_lt (And.left (And.right (And.right (And.right (And.right (And.right (by assumption)))))))) | exact (Nat.ne_of_gt (And.left (And.right (And.right (And.right (And.right (And.right (by assumption)))))))) | exact (And.right (And.right (And.right (And.right (And.right (by assumption)))))) | exact (Ne.symm (And.right (And.right (And.right (And.right (And.right (by assumption))))))) | exact (Nat.ne_of_lt (And.right (And.right (And.right (And.right (And.right (by assumption))))))) | exact (Nat.ne_of_gt (And.right (And.right (And.right (And.right (And.right (by assumption))))))) | exact (And.left (And.right (And.right (And.right (And.right (And.right (And.right (by assumption)))))))) | exact (Ne.symm (And.left (And.right (And.right (And.right (And.right (And.right (And.right (by assumption))))))))) | exact (Nat.ne_of_lt (And.left (And.right (And.right (And.right (And.right (And.right (And.right (by assumption))))))))) | exact (Nat.ne_of_gt (And.left (And.right (And.right (And.right (And.right (And.right (And.right (by assumption))))))))) | exact (And.right (And.right (And.right (And.right (And.right (And.right (by assumption))))))) | exact (Ne.symm (And.right (And.right (And.right (And.right (And.right (And.right (by assumption)))))))) | exact (Nat.ne_of_lt (And.right (And.right (And.right (And.right (And.right (And.right (by assumption)))))))) | exact (Nat.ne_of_gt (And.right (And.right (And.right (And.right (And.right (And.right (by assumption)))))))) | omega))
  k_with "k_inst" => (first | (refine' exInst ?N_r33 ?h1_r33;(case N_r33 => k_asm);(case h1_r33 => k_mem)) | (refine' exInstD ?N_r33 ?h1_r33 ?h2_r33;(case N_r33 => k_asm);(case h1_r33 => k_mem);(case h2_r33 => k_mem)))
  k_with "getMethod ref" => ((k_here;k_dflt (refine' superL ?F_r34 ?X_r34 ?N_r34 ?s_r34 ?x_r34 ?_;(case F_r34 => k_asm);(case X_r34 => assumption);(case N_r34 => k_asm);(case s_r34 => k_mem);(case x_r34 => k_mem));intro qq' qh' qF' qN' qne';(simp only [List.forall_mem_cons, List.not_mem_nil, false_implies, implies_true, and_true] at qne');(try dsimp only)))
  k_with "callWith ref" => ((k_here;(refine callWith_W (x := ?x_r35) ?_);(try dsimp only)))
  k_with "And" => (((with_reducible show WrapP _ _ _ ∧ _);k_dflt (refine' ⟨News.get (by k_asm) (by k_mem), ?_⟩);(try dsimp only [List.nil_append, List.cons_append])))
  k_with "call ref" => ((k_here;k_dflt (refine' wrapL ?F_r37 ?X_r37 ?N_r37 ?q_r37 ?U_r37 ?_;(case F_r37 => k_asm);(case X_r37 => assumption);(case N_r37 => k_asm);(case q_r37 => k_mem);(case U_r37 => intro qt9;k_upd));intro qt' qh' qF' qN';(try dsimp only)))
  k_with "setAttr ref" => ((k_here;k_dflt (refine' setFirst ?F_r38 ?X_r38 ?N_r38 ?U_r38 ?a_r38 ?_;(case F_r38 => k_asm);(case X_r38 => assumption);(case N_r38 => k_asm);(case U_r38 => intro qt9;k_upd);(case a_r38 => k_is));intro qdx' qoD' qh' qtk' qF' qN' qne' qw';(simp only [List.forall_mem_cons, List.not_mem_nil, false_implies, implies_true, and_true] at qne');(try dsimp only)))
  k_with "call ref" => ((k_here;k_dflt (refine' call_meth ?k1_r39 ?k2_r39 ?_;(case k1_r39 => k_asm);(case k2_r39 => k_mem);(refine' ks_code_super ?k1_r39 ?k2_r39 ?k3_r39 ?k4_r39 ?k5_r39 ?kA_r39 ?kF_r39 ?kK_r39 ?k6_r39 ?k7_r39 ?k8_r39 ?k9_r39 ?kB_r39 ?_ ?c1_r39 ?c2_r39 ?c3_r39 ?c4_r39;(case kA_r39 => exact Around.frames_deeper (Below.stack (by assumption)));(case kF_r39 => exact rfl);(case kK_r39 => exact rfl);(case k1_r39 => k_asm);(case k2_r39 => k_asm);(case k3_r39 => k_asm);(case k4_r39 => k_asm);(case k5_r39 => assumption);(case k6_r39 => k_is);(case k7_r39 => k_is);(case k8_r39 => walk_at "room");(case k9_r39 => exact BindsTo.of_eq rfl);(case kB_r39 => exact locs rfl);(case c1_r39 => decide);(case c2_r39 => exact rfl);(case c3_r39 => exact rfl);(case c4_r39 => exact rfl);intro qg' qL' qh' qFG' qF' qN' qB' qX' qT' ql1;(try k_lt ql1);(try dsimp only)))))
  trivial
namespace init_ok_n
noncomputable def Wk (w : World) (mean : ExcName → Option Value) (mg : Str → Option Value) (mb : Str → Option Value) (A : Around) (A₀ : Around) (base : Heap) (h₀ : Heap) (outer : List Env) (env : Env) (L : Addr) (e : Addr) (ta : Addr) (P : Addr) (m : Str → Option Value) (s : Shared) (t : Tok) (Q : Value → Shared → Prop) (E : Value → Shared → Prop) : Prop := ∀  (hA : A.frames = some (env :: outer)) (hf : env.frame = some L) (hke : env.scope.kind = .function) (hd : A.depth + 5 < recursionLimit) (B : Below A₀ base outer h₀) (F : Fr h₀ L s.heap m) (X : (Mine.hd.heap_39 w.params).In h₀) (T : TopH mean mg mb h₀) (N : News h₀ L s.heap [(e, excObj ta)]) (h : ∀ h' tk dx oD mA t', (∀ b o, b ≠ e → s.heap.get? b = some o → h'.get? b = some o) → h'.get? e = some (excObjD dx t') → s.heap.get? dx = none → h'.get? dx = some oD → OwnD oD mA → mA (Str.ofString "place") = some (.ref P) → Q .none { s with heap := h', toks := tk }), wpAny (model PG w) A (call (.ref 59) [.ref e, .str (Str.ofString "form") t, .ref P]) Q E s
theorem inhab : Nonempty ((World) × (ExcName → Option Value) × (Str → Option Value) × (Str → Option Value) × (Around) × (Around) × (Heap) × (Heap) × (List Env) × (Env) × (Addr) × (Addr) × (Addr) × (Addr) × (Str → Option Value) × (Shared) × (Tok) × (Value → Shared → Prop) × (Value → Shared → Prop)) := ⟨((aWorld 1), (fun _ => none), (fun _ => none), (fun _ => none), ({}), ({}), ({}), ({}), ([]), (envAt 85 0), (0), (0), (0), (0), (fun _ => none), ({}), (0), (fun _ _ => True), (fun _ _ => True))⟩
noncomputable def cc : (World) × (ExcName → Option Value) × (Str → Option Value) × (Str → Option Value) × (Around) × (Around) × (Heap) × (Heap) × (List Env) × (Env) × (Addr) × (Addr) × (Addr) × (Addr) × (Str → Option Value) × (Shared) × (Tok) × (Value → Shared → Prop) × (Value → Shared → Prop) := pickA inhab fun c => Wk c.1 c.2.1 c.2.2.1 c.2.2.2.1 c.2.2.2.2.1 c.2.2.2.2.2.1 c.2.2.2.2.2.2.1 c.2.2.2.2.2.2.2.1 c.2.2.2.2.2.2.2.2.1 c.2.2.2.2.2.2.2.2.2.1 c.2.2.2.2.2.2.2.2.2.2.1 c.2.2.2.2.2.2.2.2.2.2.2.1 c.2.2.2.2.2.2.2.2.2.2.2.2.1 c.2.2.2.2.2.2.2.2.2.2.2.2.2.1 c.2.2.2.2.2.2.2.2.2.2.2.2.2.2.1 c.2.2.2.2.2.2.2.2.2.2.2.2.2.2.2.1 c.2.2.2.2.2.2.2.2.2.2.2.2.2.2.2.2.1 c.2.2.2.2.2.2.2.2.2.2.2.2.2.2.2.2.2.1 c.2.2.2.2.2.2.2.2.2.2.2.2.2.2.2.2.2.2
@[irreducible] noncomputable def w : World := cc.1
@[irreducible] noncomputable def mean : ExcName → Option Value := cc.2.1
@[irreducible] noncomputable def mg : Str → Option Value := cc.2.2.1
@[irreducible] noncomputable def mb : Str → Option Value := cc.2.2.2.1
@[irreducible] noncomputable def A : Around := cc.2.2.2.2.1
@[irreducible] noncomputable def A₀ : Around := cc.2.2.2.2.2.1
@[irreducible] noncomputable def base : Heap := cc.2.2.2.2.2.2.1
@[irreducible] noncomputable def h₀ : Heap := cc.2.2.2.2.2.2.2.1
@[irreducible] noncomputable def outer : List Env := cc.2.2.2.2.2.2.2.2.1
@[irreducible] noncomputable def env : Env := cc.2.2.2.2.2.2.2.2.2.1
@[irreducible] noncomputable def L : Addr := cc.2.2.2.2.2.2.2.2.2.2.1
@[irreducible] noncomputable def e : Addr := cc.2.2.2.2.2.2.2.2.2.2.2.1
@[irreducible] noncomputable def ta : Addr := cc.2.2.2.2.2.2.2.2.2.2.2.2.1
@[irreducible] noncomputable def P : Addr := cc.2.2.2.2.2.2.2.2.2.2.2.2.2.1
@[irreducible] noncomputable def m : Str → Option Value := cc.2.2.2.2.2.2.2.2.2.2.2.2.2.2.1
@[irreducible] noncomputable def s : Shared := cc.2.2.2.2.2.2.2.2.2.2.2.2.2.2.2.1
@[irreducible] noncomputable def t : Tok := cc.2.2.2.2.2.2.2.2.2.2.2.2.2.2.2.2.1
@[irreducible] noncomputable def Q : Value → Shared → Prop := cc.2.2.2.2.2.2.2.2.2.2.2.2.2.2.2.2.2.1
@[irreducible] noncomputable def E : Value → Shared → Prop := cc.2.2.2.2.2.2.2.2.2.2.2.2.2.2.2.2.2.2
theorem here : Wk w mean mg mb A A₀ base h₀ outer env L e ta P m s t Q E := by
  unfold Wk
  intro  hA hf hke hd B F X T N h
  (have hFill : ∀ P : Params, (Mine.hd.heap_39 P = Mine.hd.heap_39 P) ∧ PySem.Challenge.rw_rg0113_01 = PySem.Challenge.rw_rg0113_01 := (by k_fill; exact fillK); clear hFill)
  refine wpAny_call ?_
  refine' callFS (binds := [(Str.ofString "self", .ref e), (Str.ofString "what", .str (Str.ofString "form") t), (Str.ofString "place", .ref P)]) B F X N T hA hf hke ?k6 ?k7 (by omega) ?k9 ?kB ?_ ?c1 ?c2 ?c3 ?c4
  case k6 => k_is
  case k7 => k_is
  case k9 => exact BindsTo.of_eq rfl
  case kB => exact locs rfl
  case c1 => decide
  case c2 => exact rfl
  case c3 => exact rfl
  case c4 => exact rfl
  intro g L' h₁ hg F1 N1 B1 X1 T1 l1
  k_lt l1
  clear F N T X B
  walk_at "go2"; all_goals (try k_data)
  all_goals (try dsimp only)
  rename OwnD _ _ => ow
  rename Fr g L' _ _ => kF
  rename News g L' _ _ => kN
  dsimp only at kF kN
  k_dflt (refine' setNext (s := ⟨_, _, _, _, _⟩) (ns := [Str.ofString "what"]) kF X1 kN ?x ?U ow ?ne ?hw ?hs ?a ?_; (case x => k_mem); (case U => intro o9; k_upd); (case ne => omega); (case hw => exact Within.cons _ _ Within.nil); (case hs => decide); (case a => k_is))
  intro oD2 h2 tk2 F2 N2 w2
  dsimp only
  walk_at "go2"; all_goals (try k_data)
  all_goals (try dsimp only)
  subst hg
  have fresh : ∀ d, (hideAll s.heap ([(e, excObj ta)].map (·.1))).get? d = none → d ≠ e → s.heap.get? d = none := fun d h1 h2 => by
    cases q : s.heap.get? d with
    | none => rfl
    | some o => rw [hideAll_get _ q (by simpa using h2)] at h1; cases h1
  refine h _ _ _ oD2 _ _ (fun b o hb e1 => F2.keep b o (hideAll_get _ e1 (by simpa using hb))) (N2.get (by k_mem)) (fresh _ (N2 _ (by k_mem : (_, oD2) ∈ _)).2.2 ?_) (N2.get (by k_mem)) w2 ?_
  · k_ne
  · rfl
theorem all : ∀ c : (World) × (ExcName → Option Value) × (Str → Option Value) × (Str → Option Value) × (Around) × (Around) × (Heap) × (Heap) × (List Env) × (Env) × (Addr) × (Addr) × (Addr) × (Addr) × (Str → Option Value) × (Shared) × (Tok) × (Value → Shared → Prop) × (Value → Shared → Prop), Wk c.1 c.2.1 c.2.2.1 c.2.2.2.1 c.2.2.2.2.1 c.2.2.2.2.2.1 c.2.2.2.2.2.2.1 c.2.2.2.2.2.2.2.1 c.2.2.2.2.2.2.2.2.1 c.2.2.2.2.2.2.2.2.2.1 c.2.2.2.2.2.2.2.2.2.2.1 c.2.2.2.2.2.2.2.2.2.2.2.1 c.2.2.2.2.2.2.2.2.2.2.2.2.1 c.2.2.2.2.2.2.2.2.2.2.2.2.2.1 c.2.2.2.2.2.2.2.2.2.2.2.2.2.2.1 c.2.2.2.2.2.2.2.2.2.2.2.2.2.2.2.1 c.2.2.2.2.2.2.2.2.2.2.2.2.2.2.2.2.1 c.2.2.2.2.2.2.2.2.2.2.2.2.2.2.2.2.2.1 c.2.2.2.2.2.2.2.2.2.2.2.2.2.2.2.2.2.2 := pickA_all (h := inhab) (p := fun c => Wk c.1 c.2.1 c.2.2.1 c.2.2.2.1 c.2.2.2.2.1 c.2.2.2.2.2.1 c.2.2.2.2.2.2.1 c.2.2.2.2.2.2.2.1 c.2.2.2.2.2.2.2.2.1 c.2.2.2.2.2.2.2.2.2.1 c.2.2.2.2.2.2.2.2.2.2.1 c.2.2.2.2.2.2.2.2.2.2.2.1 c.2.2.2.2.2.2.2.2.2.2.2.2.1 c.2.2.2.2.2.2.2.2.2.2.2.2.2.1 c.2.2.2.2.2.2.2.2.2.2.2.2.2.2.1 c.2.2.2.2.2.2.2.2.2.2.2.2.2.2.2.1 c.2.2.2.2.2.2.2.2.2.2.2.2.2.2.2.2.1 c.2.2.2.2.2.2.2.2.2.2.2.2.2.2.2.2.2.1 c.2.2.2.2.2.2.2.2.2.2.2.2.2.2.2.2.2.2) (by with_unfolding_all exact @here)
end init_ok_n
theorem init_ok {w : World} {mean : ExcName → Option Value} {mg mb : Str → Option Value} {A A₀ : Around} {base h₀ : Heap} {outer : List Env} {env : Env} {L e ta P : Addr} {m : Str → Option Value} {s : Shared} {t : Tok} {Q E : Value → Shared → Prop}
    (hA : A.frames = some (env :: outer)) (hf : env.frame = some L) (hke : env.scope.kind = .function) (hd : A.depth + 5 < recursionLimit)
    (B : Below A₀ base outer h₀) (F : Fr h₀ L s.heap m) (X : (Mine.hd.heap_39 w.params).In h₀) (T : TopH mean mg mb h₀) (N : News h₀ L s.heap [(e, excObj ta)])
    (h : ∀ h' tk dx oD mA t', (∀ b o, b ≠ e → s.heap.get? b = some o → h'.get? b = some o) → h'.get? e = some (excObjD dx t') → s.heap.get? dx = none → h'.get? dx = some oD → OwnD oD mA → mA (Str.ofString "place") = some (.ref P) → Q .none { s with heap := h', toks := tk }) :
    wpAny (model PG w) A (call (.ref 59) [.ref e, .str (Str.ofString "form") t, .ref P]) Q E s :=
  init_ok_n.all (w, mean, mg, mb, A, A₀, base, h₀, outer, env, L, e, ta, P, m, s, t, Q, E)  hA hf hke hd B F X T N h
theorem make_fault {w : World} {mean : ExcName → Option Value} {mg mb : Str → Option Value} {A A₀ : Around} {base h₀ : Heap} {outer : List Env} {env : Env} {L P : Addr} {m : Str → Option Value} {s : Shared} {t : Tok} {Q E : Value → Shared → Prop}
    (hA : A.frames = some (env :: outer)) (hf : env.frame = some L) (hke : env.scope.kind = .function) (hd : A.depth + 6 < recursionLimit)
    (B : Below A₀ base outer h₀) (F : Fr h₀ L s.heap m) (X : (Mine.hd.heap_39 w.params).In h₀) (T : TopH mean mg mb h₀)
    (h : ∀ e dd h' tk, Fresh s.heap h' e dd (.ref P) → Q (.ref e) { s with heap := h', toks := tk }) :
    wpAny (model PG w) A (call (.ref 69) [.str (Str.ofString "form") t, .ref P]) Q E s := by
  have Xs := X.keeps F.keep
  obtain ⟨nm, qn, N, bs, bm, hdct, sn, sub, ab, col, dd, k0, k1, k2, k3, k5, hC, V⟩ := fault_cls Xs
  obtain ⟨hp, gg, d, tk, os⟩ := s
  refine own_call (fI := 59) V hC (fun h' k => looks_findIn (Xs.keeps k) (by kernel_rfl)) (Xs 59 _ rfl) rfl fun h' e hm => ?_
  obtain ⟨ta, ht, htn, _⟩ := hm.there
  have F' : Fr h₀ L h' m := Keep.fr hm.keeps F
  have N' : News h₀ L h' [(e, excObj ta)] := newsAdd F (fun p hp => (nomatch hp)) ht hm.new
  refine init_ok (env := env) (outer := outer) (s := ⟨h', gg, d, tk, os⟩) hA hf hke ?_ B F' X T N' fun h2 tk2 dx oD mA t' a b c d' e' f => ⟨rfl, ?_⟩
  · rw [depth_under_kw]; omega
  · have hdx : hp.get? dx = none := by
      cases q : hp.get? dx with
      | none => rfl
      | some o => have := hm.keeps _ _ q; rw [c] at this; cases this
    exact h e dx h2 tk2 ⟨fun bb o q => a bb o (fun z => by rw [z, hm.new] at q; cases q) (hm.keeps _ _ q), hm.new, hdx, ⟨t', b⟩, ⟨oD, mA, d', e', f⟩⟩
end
section
theorem reg_order0 : True := by
  k_with_none
  k_with "go" => (repeat' ((fail_if_success (with_reducible show Exists _));(fail_if_success (with_reducible show _ ∧ Keeps _ _));(fail_if_success (with_reducible show wpAny _ _ (eval (PySem.Expr.ListComp _ _ _ _) _) _ _ _));(fail_if_success (with_reducible show wpAny _ _ (exec (Stmt.Assign _ (PySem.Expr.ListComp _ _ _ _) _) _) _ _ _));(fail_if_success (with_reducible show wpAny _ _ (exec (Stmt.While _ _ _ _) _) _ _ _));(fail_if_success (with_reducible show wpAny _ _ (exec (Stmt.For _ _ _ _ _) _) _ _ _));first | (k_unfold;(try dsimp only)) | walk1 | (dsimp only;walk1) | fail "no step"))
  k_with "reads" => (first | with_reducible assumption | exact Reads.keeps (Fr.keep (by k_asm)) (by with_reducible assumption) | (refine' readsNew1 ?rF_r1 ?rN_r1 ?rM_r1 ?rR_r1;(case rF_r1 => k_asm);(case rN_r1 => k_asm);(case rM_r1 => k_mem);(case rR_r1 => with_reducible assumption)))
  k_with "call builtin:len" => ((k_here;(with_reducible show wpAny _ _ (call _ [Value.ref _]) _ _ _);k_dflt (refine' lenLst ?N_r2 ?m_r2 ?z_r2 ?_;(case N_r2 => k_asm);(case m_r2 => k_mem);(case z_r2 => first | assumption | omega);k_whole);intro _ _))
  k_with "call builtin:len" => ((k_here;k_dflt (refine' lenTup ?R_r3 ?t_r3 ?z_r3 ?_;(case R_r3 => walk_at "reads");(case t_r3 => assumption);(case z_r3 => first | assumption | omega);k_whole);intro _ _))
  k_with "call builtin:list.pop" => ((k_here;(with_reducible show wpAny _ _ (call _ [Value.ref _]) _ _ _);k_dflt (refine' popLst ?F_r4 ?N_r4 ?U_r4 ?z_r4 ?_;(case F_r4 => k_asm);(case N_r4 => k_asm);(case U_r4 => k_upd);(case z_r4 => first | assumption | omega);k_whole);intro qh' qF' qN'))
  k_with "call builtin:isinstance" => ((k_here;(with_reducible show wpAny _ _ (call _ [_, Value.type "tuple"]) _ _ _);k_dflt (refine' isiTup ?R_r5 ?_ ?_;(case R_r5 => walk_at "reads"));all_goals (intro qhI;(try intro qtkI);(try dsimp only))))
  k_with "call builtin:isinstance" => ((k_here;(with_reducible show wpAny _ _ (call _ [_, Value.type "str"]) _ _ _);k_dflt (refine' isiStr ?R_r6 ?_ ?_;(case R_r6 => walk_at "reads"));all_goals (first | (intro qxI qtI qeI qhI qlI;(try subst qeI);(try dsimp only)) | (intro qhI qtkI;(try dsimp only)))))
  k_with "subscriptTail" => ((k_here;(with_reducible show wpAny _ _ (subscriptTail _ _ _ (Value.int 0 _)) _ _ _);k_dflt (refine' itemB0 ?F_r7 ?R_r7 ?t_r7 ?k_r7 ?_ ?s_r7;(case F_r7 => k_asm);(case R_r7 => with_reducible assumption);(case t_r7 => assumption);(case k_r7 => omega);(case s_r7 => intro _;with_unfolding_all rfl);k_whole);intro qvI qrI;(try dsimp only at qrI);(try (obtain ⟨qtI, qeI⟩ := reads_strE qrI (by with_reducible assumption);subst qeI));(try dsimp only)))
  k_with "subscriptTail" => ((k_here;(with_reducible show wpAny _ _ (subscriptTail _ _ _ (Value.int 1 _)) _ _ _);k_dflt (refine' itemB1 ?F_r8 ?R_r8 ?t_r8 ?k_r8 ?_ ?s_r8;(case F_r8 => k_asm);(case R_r8 => with_reducible assumption);(case t_r8 => assumption);(case k_r8 => omega);(case s_r8 => intro _;with_unfolding_all rfl);k_whole);intro qvI qrI;(try dsimp only at qrI);(try (obtain ⟨qtI, qeI⟩ := reads_strE qrI (by with_reducible assumption);subst qeI));(try dsimp only)))
  k_with "subscriptTail" => ((k_here;(with_reducible show wpAny _ _ (subscriptTail _ _ _ (Value.int 2 _)) _ _ _);k_dflt (refine' itemB2 ?F_r9 ?R_r9 ?t_r9 ?k_r9 ?_ ?s_r9;(case F_r9 => k_asm);(case R_r9 => with_reducible assumption);(case t_r9 => assumption);(case k_r9 => omega);(case s_r9 => intro _;with_unfolding_all rfl);k_whole);intro qvI qrI;(try dsimp only at qrI);(try (obtain ⟨qtI, qeI⟩ := reads_strE qrI (by with_reducible assumption);subst qeI));(try dsimp only)))
  k_with "subscriptTail" => ((k_here;(with_reducible show wpAny _ _ (subscriptTail _ (PySem.Expr.Slice none (some _) none _) (Value.str _ _) _) _ _ _);(k_dflt (refine strCut1 (s := ⟨_, _, _, _, _⟩) (by assumption) (by assumption) ?hsz_r10 ?_));(case hsz_r10 => (rw [sizeLine_eq];omega));intro qh' qt' qk' qF' qN' qkK;(try dsimp only at qkK);(try dsimp only)))
  k_with "subscriptTail Name Slice str ref" => ((k_here;(with_reducible show wpAny _ _ (subscriptTail _ (PySem.Expr.Slice none (some _) none _) (Value.str _ _) _) _ _ _);(k_dflt (refine strCut1 (s := ⟨_, _, _, _, _⟩) (by assumption) (by assumption) ?hsz_r11 ?_));(case hsz_r11 => (rw [sizeLine_eq];omega));intro qh' qt' qk' qF' qN' qkK;(try dsimp only at qkK);(try dsimp only)))
  k_with "subscriptTail" => ((k_here;(with_reducible show wpAny _ _ (subscriptTail _ (PySem.Expr.Slice (some _) none none _) _ (Value.ref _)) _ _ _);(k_dflt (refine' sliceTup1 (s := ⟨_, _, _, _, _⟩) ?F_r12 ?N_r12 ?R_r12 ?t_r12 ?k_r12 ?z_r12 ?_ ?hs_r12 ?hg_r12;(case F_r12 => k_asm);(case N_r12 => k_asm);(case R_r12 => with_reducible assumption);(case t_r12 => assumption);(case k_r12 => omega);(case z_r12 => omega);(case hs_r12 => intro _;with_unfolding_all rfl);(case hg_r12 => intro _ _;with_unfolding_all rfl)));intro qD' qh' qvs' qF' qN' qR' ql1 qe1;(try k_lt ql1);(try dsimp only)))
  k_with "call builtin:list.extend" => ((k_here;(k_dflt (refine' extLst ?F_r13 ?N_r13 ?b_r13 ?U_r13 ?z_r13 ?_;(case F_r13 => k_asm);(case N_r13 => k_asm);(case b_r13 => k_mem);(case U_r13 => intro qk9;k_upd);(case z_r13 => omega)));intro qh' qk' qF' qN';(try dsimp only)))
  k_with "good" => (first | exact good_shaped (by assumption) (by omega) | exact good_shaped (good_filter (by assumption)) (by omega))
  k_with "units" => (first | exact addLt (by assumption) (by decide) | exact addLt1 (c := 3) (by assumption) (by decide) | exact addLt1 (c := 1) (by assumption) (by decide) | exact addLt2 (c := 3) (d := 1) (by assumption) (by decide) | exact addLt2 (c := 3) (d := 3) (by assumption) (by decide) | omega | ((try simp only [Around.deeper_units, units_in1]);omega))
  k_with "compareOp NotEq ref ref" => ((k_here;(with_reducible show wpAny _ _ (compareOp CmpOp.NotEq (Value.ref _) (Value.ref _)) _ _ _);k_dflt (refine' neNil ?F_r16 ?N_r16 ?E_r16 ?RA_r16 ?D_r16 ?a_r16 ?u_r16 ?_;(case F_r16 => k_asm);(case N_r16 => k_asm);(case E_r16 => k_mem);(case D_r16 => k_mem);(case RA_r16 => with_reducible assumption);(case a_r16 => walk_at "good");(case u_r16 => walk_at "units");k_whole);(try dsimp only)))
  k_with "compareOp Eq ref ref" => ((k_here;(with_reducible show wpAny _ _ (compareOp CmpOp.Eq (Value.ref _) (Value.ref _)) _ _ _);k_dflt (refine' eqNil ?F_r17 ?N_r17 ?E_r17 ?RA_r17 ?D_r17 ?a_r17 ?u_r17 ?_;(case F_r17 => k_asm);(case N_r17 => k_asm);(case E_r17 => k_mem);(case D_r17 => k_mem);(case RA_r17 => with_reducible assumption);(case a_r17 => walk_at "good");(case u_r17 => walk_at "units");k_whole);(try dsimp only)))
  k_with "call type:set" => ((k_here;(with_reducible show wpAny _ _ (call (Value.type "set") [Value.ref _]) _ _ _);k_dflt (refine' setStrs ?hh_r18 ?F_r18 ?N_r18 ?D_r18 ?S_r18 ?z_r18 ?_;(case hh_r18 => assumption);(case F_r18 => k_asm);(case N_r18 => k_asm);(case D_r18 => k_mem);(case S_r18 => with_reducible assumption);(case z_r18 => with_reducible assumption));intro qD' qh' qo' qtk' qF' qN' ql1 qsO;(try k_lt ql1);(try dsimp only)))
  k_with "call builtin:sorted" => ((k_here;(with_reducible show wpAny _ _ (call (Value.builtin "sorted") [Value.ref _]) _ _ _);k_dflt (refine' sortedSet ?hh_r19 ?F_r19 ?N_r19 ?D_r19 ?S_r19 ?z_r19 ?_;(case hh_r19 => assumption);(case F_r19 => k_asm);(case N_r19 => k_asm);(case D_r19 => k_mem);(case S_r19 => with_reducible assumption);(case z_r19 => with_reducible assumption));intro qD' qh' qtk' qdr' qvs' qss' qk' qF' qN' ql1 qsA qpA qsS;(try k_lt ql1);(try dsimp only)))
  k_with "compareOp Eq ref ref" => ((k_here;(with_reducible show wpAny _ _ (compareOp CmpOp.Eq (Value.ref _) (Value.ref _)) _ _ _);k_dflt (refine' eqNames ?F_r20 ?N_r20 ?D_r20 ?E_r20 ?SD_r20 ?SE_r20 ?p_r20 ?s_r20 ?ok_r20 ?z_r20 ?u_r20 ?_;(case F_r20 => k_asm);(case N_r20 => k_asm);(case D_r20 => k_mem);(case E_r20 => k_mem);(case SD_r20 => with_reducible assumption);(case SE_r20 => with_reducible assumption);(case p_r20 => with_reducible assumption);(case s_r20 => with_reducible assumption);(case ok_r20 => with_reducible assumption);(case z_r20 => with_reducible assumption);(case u_r20 => walk_at "units");k_whole);(try dsimp only)))
  k_with "room" => (first | exact addLt (by assumption) (by decide) | exact addLt1 (c := 1) (by assumption) (by decide) | exact addLt2 (c := 1) (d := 1) (by assumption) (by decide) | omega | ((try simp only [depth_deeper, depth_in1]);omega))
  k_with "call ref" => ((k_here;k_dflt (refine' plain_ok ?R_r22 ?z_r22 _ _ _ _ _ _ _ _ _ _ ?h1_r22 ?h2_r22 ?h3_r22 ?h4_r22 ?h5_r22 ?h6_r22 ?B_r22 ?F_r22 ?X_r22 ?T_r22 ?_;(case R_r22 => walk_at "reads");(case z_r22 => first | assumption | omega | (simp only [sz, szAll];omega));(case h1_r22 => assumption);(case h2_r22 => first | exact Around.frames_deeper (Below.stack (by assumption)) | assumption);(case h3_r22 => exact rfl);(case h4_r22 => exact rfl);(case h5_r22 => walk_at "room");(case h6_r22 => walk_at "units");(case B_r22 => assumption);(case F_r22 => assumption);(case X_r22 => assumption);(case T_r22 => assumption));intro qv9 qh' qtk' qkK;(try dsimp only at qkK);(rename News _ _ _ _ => qN9);(have qN' := Keep.news qkK qN9);(rename Fr _ _ _ _ => qF9);(have qF9k := fun (_ : True) => Keep.fr qkK qF9);intro qhF' qhP';(have qF' := qF9k True.intro);clear qF9k;(try subst qhP');(try dsimp only)))
  k_with "call ref" => ((k_here;k_dflt (refine' places_ok ?R_r23 ?g_r23 ?sm_r23 _ _ _ _ _ _ _ _ _ _ ?h1_r23 ?h2_r23 ?h3_r23 ?h4_r23 ?h5_r23 ?h6_r23 ?B_r23 ?F_r23 ?X_r23 ?T_r23 ?_;(case R_r23 => walk_at "reads");(case g_r23 => first | assumption | exact good_kids (by assumption) _ (kid_mem (by omega)));(case sm_r23 => assumption);(case h1_r23 => assumption);(case h2_r23 => first | exact Around.frames_deeper (Below.stack (by assumption)) | assumption);(case h3_r23 => exact rfl);(case h4_r23 => exact rfl);(case h5_r23 => walk_at "room");(case h6_r23 => walk_at "units");(case B_r23 => assumption);(case F_r23 => assumption);(case X_r23 => assumption);(case T_r23 => assumption));intro qv9 qh' qtk' qdr' qkK;(try dsimp only at qkK);(rename News _ _ _ _ => qN9);(have qN' := Keep.news qkK qN9);(rename Fr _ _ _ _ => qF9);(have qF9k := fun (_ : True) => Keep.fr qkK qF9);intro qhF' qhP';(have qF' := qF9k True.intro);clear qF9k;(try subst qhP');(try dsimp only)))
  k_with "unpackItems ref" => ((k_here;k_dflt (refine' unpackTup ?F_r24 ?N_r24 ?hh_r24 ?ht_r24 ?hn_r24 ?_;(case F_r24 => k_asm);(case N_r24 => k_asm);(case hh_r24 => assumption);(case ht_r24 => kun_tup);(case hn_r24 => exact rfl);k_whole);intro qh' qF' qN' qkK;(try dsimp only)))
  k_with "go2" => (repeat' ((fail_if_success (with_reducible show Exists _));(fail_if_success (with_reducible show _ ∧ Keeps _ _));(fail_if_success (with_reducible show wpAny _ _ (eval (PySem.Expr.ListComp _ _ _ _) _) _ _ _));(fail_if_success (with_reducible show wpAny _ _ (exec (Stmt.Assign _ (PySem.Expr.ListComp _ _ _ _) _) _) _ _ _));(fail_if_success (with_reducible show wpAny _ _ (exec (Stmt.For _ _ _ _ _) _) _ _ _));first | (k_unfold;(try dsimp only)) | walk1 | (dsimp only;walk1) | fail "no step"))
  k_with "call ref" => ((k_here;k_dflt (refine' form_ok ?R_r26 ?g_r26 ?z_r26 ?sm_r26 _ _ _ _ _ _ _ _ _ _ ?h1_r26 ?h2_r26 ?h3_r26 ?h4_r26 ?h5_r26 ?h6_r26 ?B_r26 ?F_r26 ?X_r26 ?T_r26 ?_;(case R_r26 => walk_at "reads");(case g_r26 => assumption);(case z_r26 => assumption);(case sm_r26 => assumption);(case h1_r26 => assumption);(case h2_r26 => first | exact Around.frames_deeper (Below.stack (by assumption)) | assumption);(case h3_r26 => exact rfl);(case h4_r26 => exact rfl);(case h5_r26 => walk_at "room");(case h6_r26 => walk_at "units");(case B_r26 => assumption);(case F_r26 => assumption);(case X_r26 => assumption);(case T_r26 => assumption));intro qv9 qh' qtk' qdr' qkK;(try dsimp only at qkK);(rename News _ _ _ _ => qN9);(have qN' := Keep.news qkK qN9);(rename Fr _ _ _ _ => qF9);(have qF9k := fun (_ : True) => Keep.fr qkK qF9);intro qhF' qhP';(have qF' := qF9k True.intro);clear qF9k;(try subst qhP');(try dsimp only)))
  k_with "call ref" => ((k_here;k_dflt (refine' parts_ok ?R_r27 ?t_r27 ?l_r27 ?o_r27 _ _ _ _ _ _ _ _ _ _ ?h1_r27 ?h2_r27 ?h3_r27 ?h4_r27 ?h5_r27 ?h6_r27 ?B_r27 ?F_r27 ?X_r27 ?T_r27 ?_;(case R_r27 => walk_at "reads");(case t_r27 => assumption);(case l_r27 => assumption);(case o_r27 => assumption);(case h1_r27 => assumption);(case h2_r27 => first | exact Around.frames_deeper (Below.stack (by assumption)) | assumption);(case h3_r27 => exact rfl);(case h4_r27 => exact rfl);(case h5_r27 => walk_at "room");(case h6_r27 => walk_at "units");(case B_r27 => assumption);(case F_r27 => assumption);(case X_r27 => assumption);(case T_r27 => assumption));intro qv9 qh' qtk' qkK;(try dsimp only at qkK);(rename News _ _ _ _ => qN9);(have qN' := Keep.news qkK qN9);(rename Fr _ _ _ _ => qF9);(have qF9k := fun (_ : True) => Keep.fr qkK qF9);intro qhF' qhP';(have qF' := qF9k True.intro);clear qF9k;(obtain ⟨qT9, qe9, qo9, qn9⟩ := qhP';subst qe9);(try dsimp only at qn9);(have qN'' := newsAdd qF9 qN' qo9 qn9);(have qne9 := newsNe qN9 qn9);clear qN';(simp only [List.forall_mem_cons, List.not_mem_nil, false_implies, implies_true, and_true] at qne9);(try dsimp only)))
  k_with "assign Tuple" => ((k_here;k_dflt (refine' asgPair ?F_r28 ?N_r28 ?hh_r28 ?ht_r28 ?_;(case F_r28 => k_asm);(case N_r28 => k_asm);(case hh_r28 => assumption);(case ht_r28 => kun_tup);k_whole);intro qh' qF' qN' qkK;(try dsimp only)))
  k_with "go3" => (repeat' ((fail_if_success (with_reducible show Exists _));(fail_if_success (with_reducible show _ ∧ Keeps _ _));(fail_if_success (with_reducible show wpAny _ _ (exec (Stmt.Assign _ (PySem.Expr.ListComp _ _ _ _) _) _) _ _ _));(fail_if_success (with_reducible show wpAny _ _ (exec (Stmt.For _ _ _ _ _) _) _ _ _));first | (k_unfold;(try dsimp only)) | walk1 | (dsimp only;walk1) | fail "no step"))
  k_with "call type:enumerate" => ((k_here;(with_reducible show wpAny _ _ (call (Value.type "enumerate") [Value.ref _]) _ _ _);k_dflt (refine' enumT ?F_r30 ?N_r30 ?m_r30 ?_;(case F_r30 => k_asm);(case N_r30 => k_asm);(case m_r30 => k_mem));intro qe qh' qF' qN' qkE;(try dsimp only)))
  k_with "go4" => (repeat' ((fail_if_success (with_reducible show Exists _));(fail_if_success (with_reducible show _ ∧ Keeps _ _));(fail_if_success (with_reducible show wpAny _ _ (eval (PySem.Expr.ListComp _ _ _ _) _) _ _ _));(fail_if_success (with_reducible show wpAny _ _ (exec (Stmt.Assign _ (PySem.Expr.ListComp _ _ _ _) _) _) _ _ _));first | (k_unfold;(try dsimp only)) | walk1 | (dsimp only;walk1) | fail "no step"))
  k_with "k_ne" => ((refine neN ?_;(try dsimp only);first | assumption | exact Ne.symm (by assumption) | exact Nat.ne_of_lt (by assumption) | exact Nat.ne_of_gt (by assumption) | exact (And.left (by assumption)) | exact (Ne.symm (And.left (by assumption))) | exact (Nat.ne_of_lt (And.left (by assumption))) | exact (Nat.ne_of_gt (And.left (by assumption))) | exact (And.left (And.right (by assumption))) | exact (Ne.symm (And.left (And.right (by assumption)))) | exact (Nat.ne_of_lt (And.left (And.right (by assumption)))) | exact (Nat.ne_of_gt (And.left (And.right (by assumption)))) | exact (And.right (by assumption)) | exact (Ne.symm (And.right (by assumption))) | exact (Nat.ne_of_lt (And.right (by assumption))) | exact (Nat.ne_of_gt (And.right (by assumption))) | exact (And.left (And.right (And.right (by assumption)))) | exact (Ne.symm (And.left (And.right (And.right (by assumption))))) | exact (Nat.ne_of_lt (And.left (And.right (And.right (by assumption))))) | exact (Nat.ne_of_gt (And.left (And.right (And.right (by assumption))))) | exact (And.right (And.right (by assumption))) | exact (Ne.symm (And.right (And.right (by assumption)))) | exact (Nat.ne_of_lt (And.right (And.right (by assumption)))) | exact (Nat.ne_of_gt (And.right (And.right (by assumption)))) | exact (And.left (And.right (And.right (And.right (by assumption))))) | exact (Ne.symm (And.left (And.right (And.right (And.right (by assumption)))))) | exact (Nat.ne_of_lt (And.left (And.right (And.right (And.right (by assumption)))))) | exact (Nat.ne_of_gt (And.left (And.right (And.right (And.right (by assumption)))))) | exact (And.right (And.right (And.right (by assumption)))) | exact (Ne.symm (And.right (And.right (And.right (by assumption))))) | exact (Nat.ne_of_lt (And.right (And.right (And.right (by assumption))))) | exact (Nat.ne_of_gt (And.right (And.right (And.right (by assumption))))) | exact (And.left (And.right (And.right (And.right (And.right (by assumption)))))) | exact (Ne.symm (And.left (And.right (And.right (And.right (And.right (by assumption))))))) | exact (Nat.ne_of_lt (And.left (And.right (And.right (And.right (And.right (by assumption))))))) | exact (Nat.ne_of_gt (And.left (And.right (And.right (And.right (And.right (by assumption))))))) | exact (And.right (And.right (And.right (And.right (by assumption))))) | exact (Ne.symm (And.right (And.right (And.right (And.right (by assumption)))))) | exact (Nat.ne_of_lt (And.right (And.right (And.right (And.right (by assumption)))))) | exact (Nat.ne_of_gt (And.right (And.right (And.right (And.right (by assumption)))))) | exact (And.left (And.right (And.right (And.right (And.right (And.right (by assumption))))))) | exact (Ne.symm (And.left (And.right (And.right (And.right (And.right (And.right (by assumption)))))))) | exact (Nat.ne_of_lt (And.left (And.right (And.right (And.right (And.right (And.right (by assumption)))))))) | exact (Nat.ne_of_gt (And.left (And.right (And.right (And.right (And.right (And.right (by assumption)))))))) | exact (And.right (And.right (And.right (And.right (And.right (by assumption)))))) | exact (Ne.symm (And.right (And.right (And.right (And.right (And.right (by assumption))))))) | exact (Nat.ne_of_lt (And.right (And.right (And.right (And.right (And.right (by assumption))))))) | exact (Nat.ne_of_gt (And.right (And.right (And.right (And.right (And.right (by assumption))))))) | exact (And.left (And.right (And.right (And.right (And.right (And.right (And.right (by assumption)))))))) | exact (Ne.symm (And.left (And.right (And.right (And.right (And.right (And.right (And.right (by assumption))))))))) | exact (Nat.ne_of_lt (And.left (And.right (And.right (And.right (And.right (And.right (And.right (by assumption))))))))) | exact (Nat.ne_of_gt (And.left (And.right (And.right (And.right (And.right (And.right (And.right (by assumption))))))))) | exact (And.right (And.right (And.right (And.right (And.right (And.right (by assumption))))))) | exact (Ne.symm (And.right (And.right (And.right (And.right (And.right (And.right (by assumption)))))))) | exact (Nat.ne_of_lt (And.right (And.right (And.right (And.right (And.right (And.right (by assumption)))))))) | exact (Nat.ne_of_gt (And.right (And.right (And.right (And.right (And.right (And.right (by assumption)))))))) | omega))
  trivial
theorem order_reads {h : Heap} {D T P : Addr} {v : Value} {d : PyData} {k : Nat} (hD : h.get? D = some (listOf #[.ref T] k)) (hT : h.get? T = some { cls := .type "tuple", data := .seq #[.ref P, v] }) (hP : h.get? P = some { cls := .type "tuple", data := .seq #[] }) (R : Reads h v d []) :
    Reads h (.ref D) (.list [.tuple [.tuple [], d]]) [D] :=
  reads_list_at (as := []) hD rfl rfl (ReadsAll.cons (as := []) (bs := []) (reads_tuple_at (as := []) hT rfl rfl (ReadsAll.cons (as := []) (bs := []) (reads_tuple_at (as := []) hP rfl rfl .nil) (ReadsAll.cons (as := []) (bs := []) R .nil))) .nil)
theorem form_tup {d : PyData} (h : formB d = true) : isTup d = true := by
  cases ht : isTup d with
  | true => rfl
  | false => rw [← form_no1 ht] at h; cases h
theorem form_len {d : PyData} (h : formB d = true) : 2 ≤ (kids d).length := by
  rcases Decidable.em (((kids d).length : Int) < 2) with hl | hl
  · rw [← form_no2 hl] at h; cases h
  · omega
theorem order_end {g h : Heap} {L D T P : Addr} {v : Value} {k : Nat} {news : List (Addr × Obj)} (N : News g L h news) (hD : (D, listOf #[.ref T] k) ∈ news) (hT : (T, ({ cls := .type "tuple", data := .seq #[.ref P, v] } : Obj)) ∈ news) (hP : (P, ({ cls := .type "tuple", data := .seq #[] } : Obj)) ∈ news) :
    ∃ D' T P k, Value.ref D = .ref D' ∧ h.get? D' = some (listOf #[.ref T] k) ∧ h.get? T = some { cls := .type "tuple", data := .seq #[.ref P, v] } ∧ h.get? P = some { cls := .type "tuple", data := .seq #[] } ∧ g.get? D' = none ∧ g.get? T = none ∧ g.get? P = none :=
  ⟨D, T, P, k, rfl, N.get hD, N.get hT, N.get hP, (N _ hD).2.2, (N _ hT).2.2, (N _ hP).2.2⟩
namespace order_ok_n
noncomputable def Wk (w : World) (mean : ExcName → Option Value) (mg : Str → Option Value) (mb : Str → Option Value) (s : Shared) (A : Around) (base : Heap) (outer : List Env) (L' : Addr) (h₁ : Heap) : Prop := ∀ (v : Value) (d : PyData) (R : Reads s.heap v d []) (hg : good 51 d) (hz : sz d ≤ 900) (hsmall : (kids (kid d 2)).all pairOk = true → (kids (kid d 2)).length ≤ 2) (hc : formB d = true → ∃ x, kid d 0 = .str x ∧ bareKind x), EntC (PostF s (fun h' r => ∃ D T P k, r = .ref D ∧ h'.get? D = some (listOf #[.ref T] k) ∧ h'.get? T = some { cls := .type "tuple", data := .seq #[.ref P, v] } ∧ h'.get? P = some { cls := .type "tuple", data := .seq #[] } ∧ s.heap.get? D = none ∧ s.heap.get? T = none ∧ s.heap.get? P = none)) w mean mg mb s A base outer L' h₁ 4 500 [(Str.ofString "paper", v)] (envAtC 102 L') (stAt 102)
theorem inhab : Nonempty ((World) × (ExcName → Option Value) × (Str → Option Value) × (Str → Option Value) × (Shared) × (Around) × (Heap) × (List Env) × (Addr) × (Heap)) := ⟨((aWorld 1), (fun _ => none), (fun _ => none), (fun _ => none), ({}), ({}), ({}), ([]), (0), ({}))⟩
noncomputable def cc : (World) × (ExcName → Option Value) × (Str → Option Value) × (Str → Option Value) × (Shared) × (Around) × (Heap) × (List Env) × (Addr) × (Heap) := pickA inhab fun c => Wk c.1 c.2.1 c.2.2.1 c.2.2.2.1 c.2.2.2.2.1 c.2.2.2.2.2.1 c.2.2.2.2.2.2.1 c.2.2.2.2.2.2.2.1 c.2.2.2.2.2.2.2.2.1 c.2.2.2.2.2.2.2.2.2
@[irreducible] noncomputable def w : World := cc.1
@[irreducible] noncomputable def mean : ExcName → Option Value := cc.2.1
@[irreducible] noncomputable def mg : Str → Option Value := cc.2.2.1
@[irreducible] noncomputable def mb : Str → Option Value := cc.2.2.2.1
@[irreducible] noncomputable def s : Shared := cc.2.2.2.2.1
@[irreducible] noncomputable def A : Around := cc.2.2.2.2.2.1
@[irreducible] noncomputable def base : Heap := cc.2.2.2.2.2.2.1
@[irreducible] noncomputable def outer : List Env := cc.2.2.2.2.2.2.2.1
@[irreducible] noncomputable def L' : Addr := cc.2.2.2.2.2.2.2.2.1
@[irreducible] noncomputable def h₁ : Heap := cc.2.2.2.2.2.2.2.2.2
theorem here : Wk w mean mg mb s A base outer L' h₁ := by
  (have hFill : ∀ P : Params, (Mine.hd.heap_39 P = Mine.hd.heap_39 P) ∧ PySem.Challenge.rw_rg0113_01 = PySem.Challenge.rw_rg0113_01 := (by k_fill; exact fillK); clear hFill)
  unfold Wk
  intro v d R hg hz hsmall hc
  refine lit_atC (f := 102) (L := L') (p := EntC (PostF s (fun h' r => ∃ D T P k, r = .ref D ∧ h'.get? D = some (listOf #[.ref T] k) ∧ h'.get? T = some { cls := .type "tuple", data := .seq #[.ref P, v] } ∧ h'.get? P = some { cls := .type "tuple", data := .seq #[] } ∧ s.heap.get? D = none ∧ s.heap.get? T = none ∧ s.heap.get? P = none)) w mean mg mb s A base outer L' h₁ 4 500 [(Str.ofString "paper", v)]) (by k_is) ?_
  intro tk₁ cells hh hd hu F1 B1 X1 T1 N1 Y1
  (try dsimp only)
  k_cells Y1
  rcases Bool.eq_false_or_eq_true (formB d) with hf | hf
  · obtain ⟨x, hx, hb⟩ := hc hf
    have hx' : ∃ x, kid d 0 = .str x ∧ bareKind x := ⟨x, hx, hb⟩
    have ht : isTup d = true := form_tup hf
    have hl : 2 ≤ (kids d).length := form_len hf
    walk_at "go2"; all_goals (try k_data)
    k_dflt (refine' compNone ?c1 ?c2 ?c3 ?c4 ?c5 ?c6 ?cF ?cN ?cit ?cdone; (case c1 => assumption); (case c2 => exact rfl); (case c3 => decide); (case c4 => exact rfl); (case c5 => decide); (case c6 => intro _; with_unfolding_all rfl); (case cF => assumption); (case cN => assumption))
    case cit =>
      walk_at "go2"; all_goals (try k_data)
      all_goals (try dsimp only)
      · exact (by assumption : ∀ h₀, Keep h₀ _ → EnumT0 h₀ _ _) _ (by assumption)
      · exact ⟨_, _, _, rfl⟩
    case cdone =>
      intro D h' tk' dr' k' F' N' ne' kk'
      simp only [List.forall_mem_cons, List.not_mem_nil, false_implies, implies_true, and_true] at ne'
      walk_at "go2"; all_goals (try k_data)
      all_goals (try dsimp only)
      rename News _ _ _ _ => NN
      rename Fr _ _ _ _ => FF
      exact ⟨_, _, _, _, rfl, FF.keep, rfl, order_end NN (by k_mem) (by k_mem) (by k_mem)⟩
  · walk_at "go2"; all_goals (try k_data)
    all_goals (try dsimp only)
    rename News _ _ _ _ => NN
    rename Fr _ _ _ _ => FF
    exact ⟨_, _, _, _, rfl, FF.keep, rfl, order_end NN (by k_mem) (by k_mem) (by k_mem)⟩
theorem all : ∀ c : (World) × (ExcName → Option Value) × (Str → Option Value) × (Str → Option Value) × (Shared) × (Around) × (Heap) × (List Env) × (Addr) × (Heap), Wk c.1 c.2.1 c.2.2.1 c.2.2.2.1 c.2.2.2.2.1 c.2.2.2.2.2.1 c.2.2.2.2.2.2.1 c.2.2.2.2.2.2.2.1 c.2.2.2.2.2.2.2.2.1 c.2.2.2.2.2.2.2.2.2 := pickA_all (h := inhab) (p := fun c => Wk c.1 c.2.1 c.2.2.1 c.2.2.2.1 c.2.2.2.2.1 c.2.2.2.2.2.1 c.2.2.2.2.2.2.1 c.2.2.2.2.2.2.2.1 c.2.2.2.2.2.2.2.2.1 c.2.2.2.2.2.2.2.2.2) (by with_unfolding_all exact @here)
end order_ok_n
theorem order_ok {w : World} {mean : ExcName → Option Value} {mg mb : Str → Option Value} {s : Shared} {v : Value} {d : PyData} (R : Reads s.heap v d []) (hg : good 51 d) (hz : sz d ≤ 900) (hsmall : (kids (kid d 2)).all pairOk = true → (kids (kid d 2)).length ≤ 2)
    (hc : formB d = true → ∃ x, kid d 0 = .str x ∧ bareKind x) :
    Pure w mean mg mb 102 [v] 4 500 s (fun h' r => ∃ D T P k, r = .ref D ∧ h'.get? D = some (listOf #[.ref T] k) ∧ h'.get? T = some { cls := .type "tuple", data := .seq #[.ref P, v] } ∧ h'.get? P = some { cls := .type "tuple", data := .seq #[] } ∧ s.heap.get? D = none ∧ s.heap.get? T = none ∧ s.heap.get? P = none) := by
  (have hFill : ∀ P : Params, (Mine.hd.heap_39 P = Mine.hd.heap_39 P) ∧ PySem.Challenge.rw_rg0113_01 = PySem.Challenge.rw_rg0113_01 := (by k_fill; exact fillK); clear hFill)
  k_dflt (refine' pure_enterC [(Str.ofString "paper", v)] ?k6 ?k7 ?k9 ?kB ?kD (by decide) ?c2 ?c3 ?c4 ?_; (case k6 => k_is); (case k7 => k_is); (case k9 => exact BindsTo.of_eq rfl); (case kB => exact rfl); (case kD => decide +kernel); (case c2 => exact rfl); (case c3 => exact rfl); (case c4 => exact rfl))
  intro A base outer L' h₁ tk₁ cells hh hd hu F1 B1 X1 T1 N1 Y1
  exact order_ok_n.all (w, mean, mg, mb, s, A, base, outer, L', h₁) v d R hg hz hsmall hc tk₁ cells hh hd hu F1 B1 X1 T1 N1 Y1
end
section
theorem reg_want0 : True := by
  k_with_none
  k_with "go" => (repeat' ((fail_if_success (with_reducible show Exists _));(fail_if_success (with_reducible show _ ∧ Keeps _ _));(fail_if_success (with_reducible show wpAny _ _ (eval (PySem.Expr.ListComp _ _ _ _) _) _ _ _));(fail_if_success (with_reducible show wpAny _ _ (exec (Stmt.Assign _ (PySem.Expr.ListComp _ _ _ _) _) _) _ _ _));(fail_if_success (with_reducible show wpAny _ _ (exec (Stmt.While _ _ _ _) _) _ _ _));(fail_if_success (with_reducible show wpAny _ _ (exec (Stmt.For _ _ _ _ _) _) _ _ _));first | (k_unfold;(try dsimp only)) | walk1 | (dsimp only;walk1) | fail "no step"))
  k_with "reads" => (first | with_reducible assumption | exact Reads.keeps (Fr.keep (by k_asm)) (by with_reducible assumption) | (refine' readsNew1 ?rF_r1 ?rN_r1 ?rM_r1 ?rR_r1;(case rF_r1 => k_asm);(case rN_r1 => k_asm);(case rM_r1 => k_mem);(case rR_r1 => with_reducible assumption)))
  k_with "call builtin:len" => ((k_here;(with_reducible show wpAny _ _ (call _ [Value.ref _]) _ _ _);k_dflt (refine' lenLst ?N_r2 ?m_r2 ?z_r2 ?_;(case N_r2 => k_asm);(case m_r2 => k_mem);(case z_r2 => first | assumption | omega);k_whole);intro _ _))
  k_with "call builtin:len" => ((k_here;k_dflt (refine' lenTup ?R_r3 ?t_r3 ?z_r3 ?_;(case R_r3 => walk_at "reads");(case t_r3 => assumption);(case z_r3 => first | assumption | omega);k_whole);intro _ _))
  k_with "call builtin:list.pop" => ((k_here;(with_reducible show wpAny _ _ (call _ [Value.ref _]) _ _ _);k_dflt (refine' popLst ?F_r4 ?N_r4 ?U_r4 ?z_r4 ?_;(case F_r4 => k_asm);(case N_r4 => k_asm);(case U_r4 => k_upd);(case z_r4 => first | assumption | omega);k_whole);intro qh' qF' qN'))
  k_with "call builtin:isinstance" => ((k_here;(with_reducible show wpAny _ _ (call _ [_, Value.type "tuple"]) _ _ _);k_dflt (refine' isiTup ?R_r5 ?_ ?_;(case R_r5 => walk_at "reads"));all_goals (intro qhI;(try intro qtkI);(try dsimp only))))
  k_with "call builtin:isinstance" => ((k_here;(with_reducible show wpAny _ _ (call _ [_, Value.type "str"]) _ _ _);k_dflt (refine' isiStr ?R_r6 ?_ ?_;(case R_r6 => walk_at "reads"));all_goals (first | (intro qxI qtI qeI qhI qlI;(try subst qeI);(try dsimp only)) | (intro qhI qtkI;(try dsimp only)))))
  k_with "subscriptTail" => ((k_here;(with_reducible show wpAny _ _ (subscriptTail _ _ _ (Value.int 0 _)) _ _ _);k_dflt (refine' itemB0 ?F_r7 ?R_r7 ?t_r7 ?k_r7 ?_ ?s_r7;(case F_r7 => k_asm);(case R_r7 => with_reducible assumption);(case t_r7 => assumption);(case k_r7 => omega);(case s_r7 => intro _;with_unfolding_all rfl);k_whole);intro qvI qrI;(try dsimp only at qrI);(try (obtain ⟨qtI, qeI⟩ := reads_strE qrI (by with_reducible assumption);subst qeI));(try dsimp only)))
  k_with "subscriptTail" => ((k_here;(with_reducible show wpAny _ _ (subscriptTail _ _ _ (Value.int 1 _)) _ _ _);k_dflt (refine' itemB1 ?F_r8 ?R_r8 ?t_r8 ?k_r8 ?_ ?s_r8;(case F_r8 => k_asm);(case R_r8 => with_reducible assumption);(case t_r8 => assumption);(case k_r8 => omega);(case s_r8 => intro _;with_unfolding_all rfl);k_whole);intro qvI qrI;(try dsimp only at qrI);(try (obtain ⟨qtI, qeI⟩ := reads_strE qrI (by with_reducible assumption);subst qeI));(try dsimp only)))
  k_with "subscriptTail" => ((k_here;(with_reducible show wpAny _ _ (subscriptTail _ _ _ (Value.int 2 _)) _ _ _);k_dflt (refine' itemB2 ?F_r9 ?R_r9 ?t_r9 ?k_r9 ?_ ?s_r9;(case F_r9 => k_asm);(case R_r9 => with_reducible assumption);(case t_r9 => assumption);(case k_r9 => omega);(case s_r9 => intro _;with_unfolding_all rfl);k_whole);intro qvI qrI;(try dsimp only at qrI);(try (obtain ⟨qtI, qeI⟩ := reads_strE qrI (by with_reducible assumption);subst qeI));(try dsimp only)))
  k_with "subscriptTail" => ((k_here;(with_reducible show wpAny _ _ (subscriptTail _ (PySem.Expr.Slice none (some _) none _) (Value.str _ _) _) _ _ _);(k_dflt (refine strCut1 (s := ⟨_, _, _, _, _⟩) (by assumption) (by assumption) ?hsz_r10 ?_));(case hsz_r10 => (rw [sizeLine_eq];omega));intro qh' qt' qk' qF' qN' qkK;(try dsimp only at qkK);(try dsimp only)))
  k_with "subscriptTail Name Slice str ref" => ((k_here;(with_reducible show wpAny _ _ (subscriptTail _ (PySem.Expr.Slice none (some _) none _) (Value.str _ _) _) _ _ _);(k_dflt (refine strCut1 (s := ⟨_, _, _, _, _⟩) (by assumption) (by assumption) ?hsz_r11 ?_));(case hsz_r11 => (rw [sizeLine_eq];omega));intro qh' qt' qk' qF' qN' qkK;(try dsimp only at qkK);(try dsimp only)))
  k_with "subscriptTail" => ((k_here;(with_reducible show wpAny _ _ (subscriptTail _ (PySem.Expr.Slice (some _) none none _) _ (Value.ref _)) _ _ _);(k_dflt (refine' sliceTup1 (s := ⟨_, _, _, _, _⟩) ?F_r12 ?N_r12 ?R_r12 ?t_r12 ?k_r12 ?z_r12 ?_ ?hs_r12 ?hg_r12;(case F_r12 => k_asm);(case N_r12 => k_asm);(case R_r12 => with_reducible assumption);(case t_r12 => assumption);(case k_r12 => omega);(case z_r12 => omega);(case hs_r12 => intro _;with_unfolding_all rfl);(case hg_r12 => intro _ _;with_unfolding_all rfl)));intro qD' qh' qvs' qF' qN' qR' ql1 qe1;(try k_lt ql1);(try dsimp only)))
  k_with "call builtin:list.extend" => ((k_here;(k_dflt (refine' extLst ?F_r13 ?N_r13 ?b_r13 ?U_r13 ?z_r13 ?_;(case F_r13 => k_asm);(case N_r13 => k_asm);(case b_r13 => k_mem);(case U_r13 => intro qk9;k_upd);(case z_r13 => omega)));intro qh' qk' qF' qN';(try dsimp only)))
  k_with "good" => (first | exact good_shaped (by assumption) (by omega) | exact good_shaped (good_filter (by assumption)) (by omega))
  k_with "units" => (first | exact addLt (by assumption) (by decide) | exact addLt1 (c := 3) (by assumption) (by decide) | exact addLt1 (c := 1) (by assumption) (by decide) | exact addLt2 (c := 3) (d := 1) (by assumption) (by decide) | exact addLt2 (c := 3) (d := 3) (by assumption) (by decide) | omega | ((try simp only [Around.deeper_units, units_in1]);omega))
  k_with "compareOp NotEq ref ref" => ((k_here;(with_reducible show wpAny _ _ (compareOp CmpOp.NotEq (Value.ref _) (Value.ref _)) _ _ _);k_dflt (refine' neNil ?F_r16 ?N_r16 ?E_r16 ?RA_r16 ?D_r16 ?a_r16 ?u_r16 ?_;(case F_r16 => k_asm);(case N_r16 => k_asm);(case E_r16 => k_mem);(case D_r16 => k_mem);(case RA_r16 => with_reducible assumption);(case a_r16 => walk_at "good");(case u_r16 => walk_at "units");k_whole);(try dsimp only)))
  k_with "compareOp Eq ref ref" => ((k_here;(with_reducible show wpAny _ _ (compareOp CmpOp.Eq (Value.ref _) (Value.ref _)) _ _ _);k_dflt (refine' eqNil ?F_r17 ?N_r17 ?E_r17 ?RA_r17 ?D_r17 ?a_r17 ?u_r17 ?_;(case F_r17 => k_asm);(case N_r17 => k_asm);(case E_r17 => k_mem);(case D_r17 => k_mem);(case RA_r17 => with_reducible assumption);(case a_r17 => walk_at "good");(case u_r17 => walk_at "units");k_whole);(try dsimp only)))
  k_with "call type:set" => ((k_here;(with_reducible show wpAny _ _ (call (Value.type "set") [Value.ref _]) _ _ _);k_dflt (refine' setStrs ?hh_r18 ?F_r18 ?N_r18 ?D_r18 ?S_r18 ?z_r18 ?_;(case hh_r18 => assumption);(case F_r18 => k_asm);(case N_r18 => k_asm);(case D_r18 => k_mem);(case S_r18 => with_reducible assumption);(case z_r18 => with_reducible assumption));intro qD' qh' qo' qtk' qF' qN' ql1 qsO;(try k_lt ql1);(try dsimp only)))
  k_with "call builtin:sorted" => ((k_here;(with_reducible show wpAny _ _ (call (Value.builtin "sorted") [Value.ref _]) _ _ _);k_dflt (refine' sortedSet ?hh_r19 ?F_r19 ?N_r19 ?D_r19 ?S_r19 ?z_r19 ?_;(case hh_r19 => assumption);(case F_r19 => k_asm);(case N_r19 => k_asm);(case D_r19 => k_mem);(case S_r19 => with_reducible assumption);(case z_r19 => with_reducible assumption));intro qD' qh' qtk' qdr' qvs' qss' qk' qF' qN' ql1 qsA qpA qsS;(try k_lt ql1);(try dsimp only)))
  k_with "compareOp Eq ref ref" => ((k_here;(with_reducible show wpAny _ _ (compareOp CmpOp.Eq (Value.ref _) (Value.ref _)) _ _ _);k_dflt (refine' eqNames ?F_r20 ?N_r20 ?D_r20 ?E_r20 ?SD_r20 ?SE_r20 ?p_r20 ?s_r20 ?ok_r20 ?z_r20 ?u_r20 ?_;(case F_r20 => k_asm);(case N_r20 => k_asm);(case D_r20 => k_mem);(case E_r20 => k_mem);(case SD_r20 => with_reducible assumption);(case SE_r20 => with_reducible assumption);(case p_r20 => with_reducible assumption);(case s_r20 => with_reducible assumption);(case ok_r20 => with_reducible assumption);(case z_r20 => with_reducible assumption);(case u_r20 => walk_at "units");k_whole);(try dsimp only)))
  k_with "room" => (first | exact addLt (by assumption) (by decide) | exact addLt1 (c := 1) (by assumption) (by decide) | exact addLt2 (c := 1) (d := 1) (by assumption) (by decide) | omega | ((try simp only [depth_deeper, depth_in1]);omega))
  k_with "call ref" => ((k_here;k_dflt (refine' plain_ok ?R_r22 ?z_r22 _ _ _ _ _ _ _ _ _ _ ?h1_r22 ?h2_r22 ?h3_r22 ?h4_r22 ?h5_r22 ?h6_r22 ?B_r22 ?F_r22 ?X_r22 ?T_r22 ?_;(case R_r22 => walk_at "reads");(case z_r22 => first | assumption | omega | (simp only [sz, szAll];omega));(case h1_r22 => assumption);(case h2_r22 => first | exact Around.frames_deeper (Below.stack (by assumption)) | assumption);(case h3_r22 => exact rfl);(case h4_r22 => exact rfl);(case h5_r22 => walk_at "room");(case h6_r22 => walk_at "units");(case B_r22 => assumption);(case F_r22 => assumption);(case X_r22 => assumption);(case T_r22 => assumption));intro qv9 qh' qtk' qkK;(try dsimp only at qkK);(rename News _ _ _ _ => qN9);(have qN' := Keep.news qkK qN9);(rename Fr _ _ _ _ => qF9);(have qF9k := fun (_ : True) => Keep.fr qkK qF9);intro qhF' qhP';(have qF' := qF9k True.intro);clear qF9k;(try subst qhP');(try dsimp only)))
  k_with "call ref" => ((k_here;k_dflt (refine' places_ok ?R_r23 ?g_r23 ?sm_r23 _ _ _ _ _ _ _ _ _ _ ?h1_r23 ?h2_r23 ?h3_r23 ?h4_r23 ?h5_r23 ?h6_r23 ?B_r23 ?F_r23 ?X_r23 ?T_r23 ?_;(case R_r23 => walk_at "reads");(case g_r23 => first | assumption | exact good_kids (by assumption) _ (kid_mem (by omega)));(case sm_r23 => assumption);(case h1_r23 => assumption);(case h2_r23 => first | exact Around.frames_deeper (Below.stack (by assumption)) | assumption);(case h3_r23 => exact rfl);(case h4_r23 => exact rfl);(case h5_r23 => walk_at "room");(case h6_r23 => walk_at "units");(case B_r23 => assumption);(case F_r23 => assumption);(case X_r23 => assumption);(case T_r23 => assumption));intro qv9 qh' qtk' qdr' qkK;(try dsimp only at qkK);(rename News _ _ _ _ => qN9);(have qN' := Keep.news qkK qN9);(rename Fr _ _ _ _ => qF9);(have qF9k := fun (_ : True) => Keep.fr qkK qF9);intro qhF' qhP';(have qF' := qF9k True.intro);clear qF9k;(try subst qhP');(try dsimp only)))
  k_with "unpackItems ref" => ((k_here;k_dflt (refine' unpackTup ?F_r24 ?N_r24 ?hh_r24 ?ht_r24 ?hn_r24 ?_;(case F_r24 => k_asm);(case N_r24 => k_asm);(case hh_r24 => assumption);(case ht_r24 => kun_tup);(case hn_r24 => exact rfl);k_whole);intro qh' qF' qN' qkK;(try dsimp only)))
  k_with "go2" => (repeat' ((fail_if_success (with_reducible show Exists _));(fail_if_success (with_reducible show _ ∧ Keeps _ _));(fail_if_success (with_reducible show wpAny _ _ (eval (PySem.Expr.ListComp _ _ _ _) _) _ _ _));(fail_if_success (with_reducible show wpAny _ _ (exec (Stmt.Assign _ (PySem.Expr.ListComp _ _ _ _) _) _) _ _ _));(fail_if_success (with_reducible show wpAny _ _ (exec (Stmt.For _ _ _ _ _) _) _ _ _));first | (k_unfold;(try dsimp only)) | walk1 | (dsimp only;walk1) | fail "no step"))
  k_with "call ref" => ((k_here;k_dflt (refine' form_ok ?R_r26 ?g_r26 ?z_r26 ?sm_r26 _ _ _ _ _ _ _ _ _ _ ?h1_r26 ?h2_r26 ?h3_r26 ?h4_r26 ?h5_r26 ?h6_r26 ?B_r26 ?F_r26 ?X_r26 ?T_r26 ?_;(case R_r26 => walk_at "reads");(case g_r26 => assumption);(case z_r26 => assumption);(case sm_r26 => assumption);(case h1_r26 => assumption);(case h2_r26 => first | exact Around.frames_deeper (Below.stack (by assumption)) | assumption);(case h3_r26 => exact rfl);(case h4_r26 => exact rfl);(case h5_r26 => walk_at "room");(case h6_r26 => walk_at "units");(case B_r26 => assumption);(case F_r26 => assumption);(case X_r26 => assumption);(case T_r26 => assumption));intro qv9 qh' qtk' qdr' qkK;(try dsimp only at qkK);(rename News _ _ _ _ => qN9);(have qN' := Keep.news qkK qN9);(rename Fr _ _ _ _ => qF9);(have qF9k := fun (_ : True) => Keep.fr qkK qF9);intro qhF' qhP';(have qF' := qF9k True.intro);clear qF9k;(try subst qhP');(try dsimp only)))
  k_with "call ref" => ((k_here;k_dflt (refine' parts_ok ?R_r27 ?t_r27 ?l_r27 ?o_r27 _ _ _ _ _ _ _ _ _ _ ?h1_r27 ?h2_r27 ?h3_r27 ?h4_r27 ?h5_r27 ?h6_r27 ?B_r27 ?F_r27 ?X_r27 ?T_r27 ?_;(case R_r27 => walk_at "reads");(case t_r27 => assumption);(case l_r27 => assumption);(case o_r27 => assumption);(case h1_r27 => assumption);(case h2_r27 => first | exact Around.frames_deeper (Below.stack (by assumption)) | assumption);(case h3_r27 => exact rfl);(case h4_r27 => exact rfl);(case h5_r27 => walk_at "room");(case h6_r27 => walk_at "units");(case B_r27 => assumption);(case F_r27 => assumption);(case X_r27 => assumption);(case T_r27 => assumption));intro qv9 qh' qtk' qkK;(try dsimp only at qkK);(rename News _ _ _ _ => qN9);(have qN' := Keep.news qkK qN9);(rename Fr _ _ _ _ => qF9);(have qF9k := fun (_ : True) => Keep.fr qkK qF9);intro qhF' qhP';(have qF' := qF9k True.intro);clear qF9k;(obtain ⟨qT9, qe9, qo9, qn9⟩ := qhP';subst qe9);(try dsimp only at qn9);(have qN'' := newsAdd qF9 qN' qo9 qn9);(have qne9 := newsNe qN9 qn9);clear qN';(simp only [List.forall_mem_cons, List.not_mem_nil, false_implies, implies_true, and_true] at qne9);(try dsimp only)))
  k_with "assign Tuple" => ((k_here;k_dflt (refine' asgPair ?F_r28 ?N_r28 ?hh_r28 ?ht_r28 ?_;(case F_r28 => k_asm);(case N_r28 => k_asm);(case hh_r28 => assumption);(case ht_r28 => kun_tup);k_whole);intro qh' qF' qN' qkK;(try dsimp only)))
  k_with "go3" => (repeat' ((fail_if_success (with_reducible show Exists _));(fail_if_success (with_reducible show _ ∧ Keeps _ _));(fail_if_success (with_reducible show wpAny _ _ (exec (Stmt.Assign _ (PySem.Expr.ListComp _ _ _ _) _) _) _ _ _));(fail_if_success (with_reducible show wpAny _ _ (exec (Stmt.For _ _ _ _ _) _) _ _ _));first | (k_unfold;(try dsimp only)) | walk1 | (dsimp only;walk1) | fail "no step"))
  k_with "call type:enumerate" => ((k_here;(with_reducible show wpAny _ _ (call (Value.type "enumerate") [Value.ref _]) _ _ _);k_dflt (refine' enumT ?F_r30 ?N_r30 ?m_r30 ?_;(case F_r30 => k_asm);(case N_r30 => k_asm);(case m_r30 => k_mem));intro qe qh' qF' qN' qkE;(try dsimp only)))
  k_with "go4" => (repeat' ((fail_if_success (with_reducible show Exists _));(fail_if_success (with_reducible show _ ∧ Keeps _ _));(fail_if_success (with_reducible show wpAny _ _ (eval (PySem.Expr.ListComp _ _ _ _) _) _ _ _));(fail_if_success (with_reducible show wpAny _ _ (exec (Stmt.Assign _ (PySem.Expr.ListComp _ _ _ _) _) _) _ _ _));first | (k_unfold;(try dsimp only)) | walk1 | (dsimp only;walk1) | fail "no step"))
  k_with "call ref" => ((k_here;k_dflt (refine' order_ok ?R_r32 ?g_r32 ?z_r32 ?sm_r32 ?hc_r32 _ _ _ _ _ _ _ _ _ _ ?h1_r32 ?h2_r32 ?h3_r32 ?h4_r32 ?h5_r32 ?h6_r32 ?B_r32 ?F_r32 ?X_r32 ?T_r32 ?_;(case R_r32 => walk_at "reads");(case g_r32 => assumption);(case z_r32 => assumption);(case sm_r32 => assumption);(case hc_r32 => assumption);(case h1_r32 => assumption);(case h2_r32 => first | exact Around.frames_deeper (Below.stack (by assumption)) | assumption);(case h3_r32 => exact rfl);(case h4_r32 => exact rfl);(case h5_r32 => walk_at "room");(case h6_r32 => walk_at "units");(case B_r32 => assumption);(case F_r32 => assumption);(case X_r32 => assumption);(case T_r32 => assumption));intro qv9 qh' qtk' qdr' qkK;(try dsimp only at qkK);(rename News _ _ _ _ => qN9);(have qN' := Keep.news qkK qN9);(rename Fr _ _ _ _ => qF9);(have qF9k := fun (_ : True) => Keep.fr qkK qF9);intro qhF' qhP';(have qF' := qF9k True.intro);clear qF9k;(obtain ⟨qD9, qT9, qP9, qk9, qe9, qoD9, qoT9, qoP9, qnD9, qnT9, qnP9⟩ := qhP';subst qe9);(try dsimp only at qnD9 qnT9 qnP9);(have qNp := newsAdd qF9 qN' qoP9 qnP9);(have qNt := newsAdd qF9 qNp qoT9 qnT9);(have qNd := newsAdd qF9 qNt qoD9 qnD9);(have qneP := newsNe qN9 qnP9);(have qneT := newsNe qN9 qnT9);(have qneD := newsNe qN9 qnD9);(have qnePT := ne3 qoD9 qoT9 qoP9);clear qN' qNp qNt;(simp only [List.forall_mem_cons, List.not_mem_nil, false_implies, implies_true, and_true] at qneP qneT qneD);(try dsimp only)))
  k_with "k_ne" => ((refine neN ?_;(try dsimp only);first | assumption | exact Ne.symm (by assumption) | exact Nat.ne_of_lt (by assumption) | exact Nat.ne_of_gt (by assumption) | exact (And.left (by assumption)) | exact (Ne.symm (And.left (by assumption))) | exact (Nat.ne_of_lt (And.left (by assumption))) | exact (Nat.ne_of_gt (And.left (by assumption))) | exact (And.left (And.right (by assumption))) | exact (Ne.symm (And.left (And.right (by assumption)))) | exact (Nat.ne_of_lt (And.left (And.right (by assumption)))) | exact (Nat.ne_of_gt (And.left (And.right (by assumption)))) | exact (And.right (by assumption)) | exact (Ne.symm (And.right (by assumption))) | exact (Nat.ne_of_lt (And.right (by assumption))) | exact (Nat.ne_of_gt (And.right (by assumption))) | exact (And.left (And.right (And.right (by assumption)))) | exact (Ne.symm (And.left (And.right (And.right (by assumption))))) | exact (Nat.ne_of_lt (And.left (And.right (And.right (by assumption))))) | exact (Nat.ne_of_gt (And.left (And.right (And.right (by assumption))))) | exact (And.right (And.right (by assumption))) | exact (Ne.symm (And.right (And.right (by assumption)))) | exact (Nat.ne_of_lt (And.right (And.right (by assumption)))) | exact (Nat.ne_of_gt (And.right (And.right (by assumption)))) | exact (And.left (And.right (And.right (And.right (by assumption))))) | exact (Ne.symm (And.left (And.right (And.right (And.right (by assumption)))))) | exact (Nat.ne_of_lt (And.left (And.right (And.right (And.right (by assumption)))))) | exact (Nat.ne_of_gt (And.left (And.right (And.right (And.right (by assumption)))))) | exact (And.right (And.right (And.right (by assumption)))) | exact (Ne.symm (And.right (And.right (And.right (by assumption))))) | exact (Nat.ne_of_lt (And.right (And.right (And.right (by assumption))))) | exact (Nat.ne_of_gt (And.right (And.right (And.right (by assumption))))) | exact (And.left (And.right (And.right (And.right (And.right (by assumption)))))) | exact (Ne.symm (And.left (And.right (And.right (And.right (And.right (by assumption))))))) | exact (Nat.ne_of_lt (And.left (And.right (And.right (And.right (And.right (by assumption))))))) | exact (Nat.ne_of_gt (And.left (And.right (And.right (And.right (And.right (by assumption))))))) | exact (And.right (And.right (And.right (And.right (by assumption))))) | exact (Ne.symm (And.right (And.right (And.right (And.right (by assumption)))))) | exact (Nat.ne_of_lt (And.right (And.right (And.right (And.right (by assumption)))))) | exact (Nat.ne_of_gt (And.right (And.right (And.right (And.right (by assumption)))))) | exact (And.left (And.right (And.right (And.right (And.right (And.right (by assumption))))))) | exact (Ne.symm (And.left (And.right (And.right (And.right (And.right (And.right (by assumption)))))))) | exact (Nat.ne_of_lt (And.left (And.right (And.right (And.right (And.right (And.right (by assumption)))))))) | exact (Nat.ne_of_gt (And.left (And.right (And.right (And.right (And.right (And.right (by assumption)))))))) | exact (And.right (And.right (And.right (And.right (And.right (by assumption)))))) | exact (Ne.symm (And.right (And.right (And.right (And.right (And.right (by assumption))))))) | exact (Nat.ne_of_lt (And.right (And.right (And.right (And.right (And.right (by assumption))))))) | exact (Nat.ne_of_gt (And.right (And.right (And.right (And.right (And.right (by assumption))))))) | exact (And.left (And.right (And.right (And.right (And.right (And.right (And.right (by assumption)))))))) | exact (Ne.symm (And.left (And.right (And.right (And.right (And.right (And.right (And.right (by assumption))))))))) | exact (Nat.ne_of_lt (And.left (And.right (And.right (And.right (And.right (And.right (And.right (by assumption))))))))) | exact (Nat.ne_of_gt (And.left (And.right (And.right (And.right (And.right (And.right (And.right (by assumption))))))))) | exact (And.right (And.right (And.right (And.right (And.right (And.right (by assumption))))))) | exact (Ne.symm (And.right (And.right (And.right (And.right (And.right (And.right (by assumption)))))))) | exact (Nat.ne_of_lt (And.right (And.right (And.right (And.right (And.right (And.right (by assumption)))))))) | exact (Nat.ne_of_gt (And.right (And.right (And.right (And.right (And.right (And.right (by assumption)))))))) | omega))
  k_with "call ref" => ((k_here;k_dflt (refine' make_fault ?h2_r34 ?h3_r34 ?h4_r34 ?h5_r34 ?B_r34 ?F_r34 ?X_r34 ?T_r34 ?_;(case h2_r34 => first | exact Around.frames_deeper (Below.stack (by assumption)) | assumption);(case h3_r34 => exact rfl);(case h4_r34 => exact rfl);(case h5_r34 => walk_at "room");(case B_r34 => assumption);(case F_r34 => assumption);(case X_r34 => assumption);(case T_r34 => assumption));intro qe9 qdd9 qh' qtk' qfr9;(try dsimp only at qfr9);(try dsimp only)))
  trivial
theorem want_raises {w : World} {mean : ExcName → Option Value} {mg mb : Str → Option Value} {s : Shared} {v : Value} {d : PyData} {P : Addr} (R : Reads s.heap v d []) (hg : good 51 d) (hz : sz d ≤ 900) (hsmall : (kids (kid d 2)).all pairOk = true → (kids (kid d 2)).length ≤ 2) (hform : formB d = false) (hP : IsTup s.heap P #[]) :
    Raises w mean mg mb 109 [v, .ref P] 8 500 s := by
  (have hFill : ∀ P : Params, (Mine.hd.heap_39 P = Mine.hd.heap_39 P) ∧ PySem.Challenge.rw_rg0113_01 = PySem.Challenge.rw_rg0113_01 := (by k_fill; exact fillK); clear hFill)
  intro A A₀ base h₀ outer env L m Q E hh hA hf hke hd hu B F X T KD ret
  refine wpAny_call ?_
  refine' callF (binds := [(Str.ofString "paper", v), (Str.ofString "path", .ref P)]) B F X T.nolimit hA hf hke ?k6 ?k7 (by omega) ?k9 ?kB ?_ ?c1 ?c2 ?c3 ?c4
  case k6 => k_is
  case k7 => k_is
  case k9 => exact BindsTo.of_eq rfl
  case kB => exact locs rfl
  case c1 => decide
  case c2 => exact rfl
  case c3 => exact rfl
  case c4 => exact rfl
  intro L' h₁ F1 B1
  have X1 := X.keeps F.keep
  have T1 := T.keeps F.keep
  have N1 : News s.heap L' h₁ [] := News.nil
  have hoff := off_frames F hf KD hP
  clear F X T B
  walk_at "go"; all_goals (try k_data)
  all_goals (try dsimp only)
  obtain ⟨nm, qn, Ns, bs, bm, hdct, sn, sub, ab, col, dd, k0, k1, k2, k3, k5, hC, V⟩ := fault_cls X1
  rw [arm_exec_Raise]
  first
    | refine wpAny_bind (wpAny_standAt (raise_made (nm := nm) (q := qn) (C := 69) (N := Ns) (bs := bs) (bm := bm) (hdct := hdct) (sn := sn) (sub := sub) (ab := ab) (col := col) (dd := dd) (k0 := k0) (k1 := k1) (k2 := k2) (k3 := k3) (k5 := k5) (newId := "Exception.__new__") V.hasB (by assumption) ?_))
    | (simp only [evalOpt, Option.map]; refine wpAny_bind (wpAny_standAt (raise_made (nm := nm) (q := qn) (C := 69) (N := Ns) (bs := bs) (bm := bm) (hdct := hdct) (sn := sn) (sub := sub) (ab := ab) (col := col) (dd := dd) (k0 := k0) (k1 := k1) (k2 := k2) (k3 := k3) (k5 := k5) (newId := "Exception.__new__") V.hasB (by assumption) ?_)))
  refine wpAny_bind (wpAny_mono ?_ (fun v s₃ h₃ => wpAny_bind (wpAny_standAt (wpAny_pure h₃))) fun _ _ x => x)
  walk_at "go"; all_goals (try k_data)
  all_goals (try dsimp only)
  rename Fresh _ _ _ _ _ => fr
  rename Fr _ _ _ _ => FF
  obtain ⟨tt, ho⟩ := fr.obj
  refine ⟨_, tt, _, rfl, fr.keep _ _ (FF.keep _ _ hC), ho, ?_⟩
  refine throw_leave (s := ⟨_, _, _, _, _⟩) B1 FF fr hP hoff fun h' x => ?_
  exact ret _ _ _ _ x
end
section
theorem reg_want20 : True := by
  k_with_none
  k_with "go" => (repeat' ((fail_if_success (with_reducible show Exists _));(fail_if_success (with_reducible show _ ∧ Keeps _ _));(fail_if_success (with_reducible show wpAny _ _ (eval (PySem.Expr.ListComp _ _ _ _) _) _ _ _));(fail_if_success (with_reducible show wpAny _ _ (exec (Stmt.Assign _ (PySem.Expr.ListComp _ _ _ _) _) _) _ _ _));(fail_if_success (with_reducible show wpAny _ _ (exec (Stmt.While _ _ _ _) _) _ _ _));(fail_if_success (with_reducible show wpAny _ _ (exec (Stmt.For _ _ _ _ _) _) _ _ _));first | (k_unfold;(try dsimp only)) | walk1 | (dsimp only;walk1) | fail "no step"))
  k_with "reads" => (first | with_reducible assumption | exact Reads.keeps (Fr.keep (by k_asm)) (by with_reducible assumption) | (refine' readsNew1 ?rF_r1 ?rN_r1 ?rM_r1 ?rR_r1;(case rF_r1 => k_asm);(case rN_r1 => k_asm);(case rM_r1 => k_mem);(case rR_r1 => with_reducible assumption)))
  k_with "call builtin:len" => ((k_here;(with_reducible show wpAny _ _ (call _ [Value.ref _]) _ _ _);k_dflt (refine' lenLst ?N_r2 ?m_r2 ?z_r2 ?_;(case N_r2 => k_asm);(case m_r2 => k_mem);(case z_r2 => first | assumption | omega);k_whole);intro _ _))
  k_with "call builtin:len" => ((k_here;k_dflt (refine' lenTup ?R_r3 ?t_r3 ?z_r3 ?_;(case R_r3 => walk_at "reads");(case t_r3 => assumption);(case z_r3 => first | assumption | omega);k_whole);intro _ _))
  k_with "call builtin:list.pop" => ((k_here;(with_reducible show wpAny _ _ (call _ [Value.ref _]) _ _ _);k_dflt (refine' popLst ?F_r4 ?N_r4 ?U_r4 ?z_r4 ?_;(case F_r4 => k_asm);(case N_r4 => k_asm);(case U_r4 => k_upd);(case z_r4 => first | assumption | omega);k_whole);intro qh' qF' qN'))
  k_with "call builtin:isinstance" => ((k_here;(with_reducible show wpAny _ _ (call _ [_, Value.type "tuple"]) _ _ _);k_dflt (refine' isiTup ?R_r5 ?_ ?_;(case R_r5 => walk_at "reads"));all_goals (intro qhI;(try intro qtkI);(try dsimp only))))
  k_with "call builtin:isinstance" => ((k_here;(with_reducible show wpAny _ _ (call _ [_, Value.type "str"]) _ _ _);k_dflt (refine' isiStr ?R_r6 ?_ ?_;(case R_r6 => walk_at "reads"));all_goals (first | (intro qxI qtI qeI qhI qlI;(try subst qeI);(try dsimp only)) | (intro qhI qtkI;(try dsimp only)))))
  k_with "subscriptTail" => ((k_here;(with_reducible show wpAny _ _ (subscriptTail _ _ _ (Value.int 0 _)) _ _ _);k_dflt (refine' itemB0 ?F_r7 ?R_r7 ?t_r7 ?k_r7 ?_ ?s_r7;(case F_r7 => k_asm);(case R_r7 => with_reducible assumption);(case t_r7 => assumption);(case k_r7 => omega);(case s_r7 => intro _;with_unfolding_all rfl);k_whole);intro qvI qrI;(try dsimp only at qrI);(try (obtain ⟨qtI, qeI⟩ := reads_strE qrI (by with_reducible assumption);subst qeI));(try dsimp only)))
  k_with "subscriptTail" => ((k_here;(with_reducible show wpAny _ _ (subscriptTail _ _ _ (Value.int 1 _)) _ _ _);k_dflt (refine' itemB1 ?F_r8 ?R_r8 ?t_r8 ?k_r8 ?_ ?s_r8;(case F_r8 => k_asm);(case R_r8 => with_reducible assumption);(case t_r8 => assumption);(case k_r8 => omega);(case s_r8 => intro _;with_unfolding_all rfl);k_whole);intro qvI qrI;(try dsimp only at qrI);(try (obtain ⟨qtI, qeI⟩ := reads_strE qrI (by with_reducible assumption);subst qeI));(try dsimp only)))
  k_with "subscriptTail" => ((k_here;(with_reducible show wpAny _ _ (subscriptTail _ _ _ (Value.int 2 _)) _ _ _);k_dflt (refine' itemB2 ?F_r9 ?R_r9 ?t_r9 ?k_r9 ?_ ?s_r9;(case F_r9 => k_asm);(case R_r9 => with_reducible assumption);(case t_r9 => assumption);(case k_r9 => omega);(case s_r9 => intro _;with_unfolding_all rfl);k_whole);intro qvI qrI;(try dsimp only at qrI);(try (obtain ⟨qtI, qeI⟩ := reads_strE qrI (by with_reducible assumption);subst qeI));(try dsimp only)))
  k_with "subscriptTail" => ((k_here;(with_reducible show wpAny _ _ (subscriptTail _ (PySem.Expr.Slice none (some _) none _) (Value.str _ _) _) _ _ _);(k_dflt (refine strCut1 (s := ⟨_, _, _, _, _⟩) (by assumption) (by assumption) ?hsz_r10 ?_));(case hsz_r10 => (rw [sizeLine_eq];omega));intro qh' qt' qk' qF' qN' qkK;(try dsimp only at qkK);(try dsimp only)))
  k_with "subscriptTail Name Slice str ref" => ((k_here;(with_reducible show wpAny _ _ (subscriptTail _ (PySem.Expr.Slice none (some _) none _) (Value.str _ _) _) _ _ _);(k_dflt (refine strCut1 (s := ⟨_, _, _, _, _⟩) (by assumption) (by assumption) ?hsz_r11 ?_));(case hsz_r11 => (rw [sizeLine_eq];omega));intro qh' qt' qk' qF' qN' qkK;(try dsimp only at qkK);(try dsimp only)))
  k_with "subscriptTail" => ((k_here;(with_reducible show wpAny _ _ (subscriptTail _ (PySem.Expr.Slice (some _) none none _) _ (Value.ref _)) _ _ _);(k_dflt (refine' sliceTup1 (s := ⟨_, _, _, _, _⟩) ?F_r12 ?N_r12 ?R_r12 ?t_r12 ?k_r12 ?z_r12 ?_ ?hs_r12 ?hg_r12;(case F_r12 => k_asm);(case N_r12 => k_asm);(case R_r12 => with_reducible assumption);(case t_r12 => assumption);(case k_r12 => omega);(case z_r12 => omega);(case hs_r12 => intro _;with_unfolding_all rfl);(case hg_r12 => intro _ _;with_unfolding_all rfl)));intro qD' qh' qvs' qF' qN' qR' ql1 qe1;(try k_lt ql1);(try dsimp only)))
  k_with "call builtin:list.extend" => ((k_here;(k_dflt (refine' extLst ?F_r13 ?N_r13 ?b_r13 ?U_r13 ?z_r13 ?_;(case F_r13 => k_asm);(case N_r13 => k_asm);(case b_r13 => k_mem);(case U_r13 => intro qk9;k_upd);(case z_r13 => omega)));intro qh' qk' qF' qN';(try dsimp only)))
  k_with "good" => (first | exact good_shaped (by assumption) (by omega) | exact good_shaped (good_filter (by assumption)) (by omega))
  k_with "units" => (first | exact addLt (by assumption) (by decide) | exact addLt1 (c := 3) (by assumption) (by decide) | exact addLt1 (c := 1) (by assumption) (by decide) | exact addLt2 (c := 3) (d := 1) (by assumption) (by decide) | exact addLt2 (c := 3) (d := 3) (by assumption) (by decide) | omega | ((try simp only [Around.deeper_units, units_in1]);omega))
  k_with "compareOp NotEq ref ref" => ((k_here;(with_reducible show wpAny _ _ (compareOp CmpOp.NotEq (Value.ref _) (Value.ref _)) _ _ _);k_dflt (refine' neNil ?F_r16 ?N_r16 ?E_r16 ?RA_r16 ?D_r16 ?a_r16 ?u_r16 ?_;(case F_r16 => k_asm);(case N_r16 => k_asm);(case E_r16 => k_mem);(case D_r16 => k_mem);(case RA_r16 => with_reducible assumption);(case a_r16 => walk_at "good");(case u_r16 => walk_at "units");k_whole);(try dsimp only)))
  k_with "compareOp Eq ref ref" => ((k_here;(with_reducible show wpAny _ _ (compareOp CmpOp.Eq (Value.ref _) (Value.ref _)) _ _ _);k_dflt (refine' eqNil ?F_r17 ?N_r17 ?E_r17 ?RA_r17 ?D_r17 ?a_r17 ?u_r17 ?_;(case F_r17 => k_asm);(case N_r17 => k_asm);(case E_r17 => k_mem);(case D_r17 => k_mem);(case RA_r17 => with_reducible assumption);(case a_r17 => walk_at "good");(case u_r17 => walk_at "units");k_whole);(try dsimp only)))
  k_with "call type:set" => ((k_here;(with_reducible show wpAny _ _ (call (Value.type "set") [Value.ref _]) _ _ _);k_dflt (refine' setStrs ?hh_r18 ?F_r18 ?N_r18 ?D_r18 ?S_r18 ?z_r18 ?_;(case hh_r18 => assumption);(case F_r18 => k_asm);(case N_r18 => k_asm);(case D_r18 => k_mem);(case S_r18 => with_reducible assumption);(case z_r18 => with_reducible assumption));intro qD' qh' qo' qtk' qF' qN' ql1 qsO;(try k_lt ql1);(try dsimp only)))
  k_with "call builtin:sorted" => ((k_here;(with_reducible show wpAny _ _ (call (Value.builtin "sorted") [Value.ref _]) _ _ _);k_dflt (refine' sortedSet ?hh_r19 ?F_r19 ?N_r19 ?D_r19 ?S_r19 ?z_r19 ?_;(case hh_r19 => assumption);(case F_r19 => k_asm);(case N_r19 => k_asm);(case D_r19 => k_mem);(case S_r19 => with_reducible assumption);(case z_r19 => with_reducible assumption));intro qD' qh' qtk' qdr' qvs' qss' qk' qF' qN' ql1 qsA qpA qsS;(try k_lt ql1);(try dsimp only)))
  k_with "compareOp Eq ref ref" => ((k_here;(with_reducible show wpAny _ _ (compareOp CmpOp.Eq (Value.ref _) (Value.ref _)) _ _ _);k_dflt (refine' eqNames ?F_r20 ?N_r20 ?D_r20 ?E_r20 ?SD_r20 ?SE_r20 ?p_r20 ?s_r20 ?ok_r20 ?z_r20 ?u_r20 ?_;(case F_r20 => k_asm);(case N_r20 => k_asm);(case D_r20 => k_mem);(case E_r20 => k_mem);(case SD_r20 => with_reducible assumption);(case SE_r20 => with_reducible assumption);(case p_r20 => with_reducible assumption);(case s_r20 => with_reducible assumption);(case ok_r20 => with_reducible assumption);(case z_r20 => with_reducible assumption);(case u_r20 => walk_at "units");k_whole);(try dsimp only)))
  k_with "room" => (first | exact addLt (by assumption) (by decide) | exact addLt1 (c := 1) (by assumption) (by decide) | exact addLt2 (c := 1) (d := 1) (by assumption) (by decide) | omega | ((try simp only [depth_deeper, depth_in1]);omega))
  k_with "call ref" => ((k_here;k_dflt (refine' plain_ok ?R_r22 ?z_r22 _ _ _ _ _ _ _ _ _ _ ?h1_r22 ?h2_r22 ?h3_r22 ?h4_r22 ?h5_r22 ?h6_r22 ?B_r22 ?F_r22 ?X_r22 ?T_r22 ?_;(case R_r22 => walk_at "reads");(case z_r22 => first | assumption | omega | (simp only [sz, szAll];omega));(case h1_r22 => assumption);(case h2_r22 => first | exact Around.frames_deeper (Below.stack (by assumption)) | assumption);(case h3_r22 => exact rfl);(case h4_r22 => exact rfl);(case h5_r22 => walk_at "room");(case h6_r22 => walk_at "units");(case B_r22 => assumption);(case F_r22 => assumption);(case X_r22 => assumption);(case T_r22 => assumption));intro qv9 qh' qtk' qkK;(try dsimp only at qkK);(rename News _ _ _ _ => qN9);(have qN' := Keep.news qkK qN9);(rename Fr _ _ _ _ => qF9);(have qF9k := fun (_ : True) => Keep.fr qkK qF9);intro qhF' qhP';(have qF' := qF9k True.intro);clear qF9k;(try subst qhP');(try dsimp only)))
  k_with "call ref" => ((k_here;k_dflt (refine' places_ok ?R_r23 ?g_r23 ?sm_r23 _ _ _ _ _ _ _ _ _ _ ?h1_r23 ?h2_r23 ?h3_r23 ?h4_r23 ?h5_r23 ?h6_r23 ?B_r23 ?F_r23 ?X_r23 ?T_r23 ?_;(case R_r23 => walk_at "reads");(case g_r23 => first | assumption | exact good_kids (by assumption) _ (kid_mem (by omega)));(case sm_r23 => assumption);(case h1_r23 => assumption);(case h2_r23 => first | exact Around.frames_deeper (Below.stack (by assumption)) | assumption);(case h3_r23 => exact rfl);(case h4_r23 => exact rfl);(case h5_r23 => walk_at "room");(case h6_r23 => walk_at "units");(case B_r23 => assumption);(case F_r23 => assumption);(case X_r23 => assumption);(case T_r23 => assumption));intro qv9 qh' qtk' qdr' qkK;(try dsimp only at qkK);(rename News _ _ _ _ => qN9);(have qN' := Keep.news qkK qN9);(rename Fr _ _ _ _ => qF9);(have qF9k := fun (_ : True) => Keep.fr qkK qF9);intro qhF' qhP';(have qF' := qF9k True.intro);clear qF9k;(try subst qhP');(try dsimp only)))
  k_with "unpackItems ref" => ((k_here;k_dflt (refine' unpackTup ?F_r24 ?N_r24 ?hh_r24 ?ht_r24 ?hn_r24 ?_;(case F_r24 => k_asm);(case N_r24 => k_asm);(case hh_r24 => assumption);(case ht_r24 => kun_tup);(case hn_r24 => exact rfl);k_whole);intro qh' qF' qN' qkK;(try dsimp only)))
  k_with "go2" => (repeat' ((fail_if_success (with_reducible show Exists _));(fail_if_success (with_reducible show _ ∧ Keeps _ _));(fail_if_success (with_reducible show wpAny _ _ (eval (PySem.Expr.ListComp _ _ _ _) _) _ _ _));(fail_if_success (with_reducible show wpAny _ _ (exec (Stmt.Assign _ (PySem.Expr.ListComp _ _ _ _) _) _) _ _ _));(fail_if_success (with_reducible show wpAny _ _ (exec (Stmt.For _ _ _ _ _) _) _ _ _));first | (k_unfold;(try dsimp only)) | walk1 | (dsimp only;walk1) | fail "no step"))
  k_with "call ref" => ((k_here;k_dflt (refine' form_ok ?R_r26 ?g_r26 ?z_r26 ?sm_r26 _ _ _ _ _ _ _ _ _ _ ?h1_r26 ?h2_r26 ?h3_r26 ?h4_r26 ?h5_r26 ?h6_r26 ?B_r26 ?F_r26 ?X_r26 ?T_r26 ?_;(case R_r26 => walk_at "reads");(case g_r26 => assumption);(case z_r26 => assumption);(case sm_r26 => assumption);(case h1_r26 => assumption);(case h2_r26 => first | exact Around.frames_deeper (Below.stack (by assumption)) | assumption);(case h3_r26 => exact rfl);(case h4_r26 => exact rfl);(case h5_r26 => walk_at "room");(case h6_r26 => walk_at "units");(case B_r26 => assumption);(case F_r26 => assumption);(case X_r26 => assumption);(case T_r26 => assumption));intro qv9 qh' qtk' qdr' qkK;(try dsimp only at qkK);(rename News _ _ _ _ => qN9);(have qN' := Keep.news qkK qN9);(rename Fr _ _ _ _ => qF9);(have qF9k := fun (_ : True) => Keep.fr qkK qF9);intro qhF' qhP';(have qF' := qF9k True.intro);clear qF9k;(try subst qhP');(try dsimp only)))
  k_with "call ref" => ((k_here;k_dflt (refine' parts_ok ?R_r27 ?t_r27 ?l_r27 ?o_r27 _ _ _ _ _ _ _ _ _ _ ?h1_r27 ?h2_r27 ?h3_r27 ?h4_r27 ?h5_r27 ?h6_r27 ?B_r27 ?F_r27 ?X_r27 ?T_r27 ?_;(case R_r27 => walk_at "reads");(case t_r27 => assumption);(case l_r27 => assumption);(case o_r27 => assumption);(case h1_r27 => assumption);(case h2_r27 => first | exact Around.frames_deeper (Below.stack (by assumption)) | assumption);(case h3_r27 => exact rfl);(case h4_r27 => exact rfl);(case h5_r27 => walk_at "room");(case h6_r27 => walk_at "units");(case B_r27 => assumption);(case F_r27 => assumption);(case X_r27 => assumption);(case T_r27 => assumption));intro qv9 qh' qtk' qkK;(try dsimp only at qkK);(rename News _ _ _ _ => qN9);(have qN' := Keep.news qkK qN9);(rename Fr _ _ _ _ => qF9);(have qF9k := fun (_ : True) => Keep.fr qkK qF9);intro qhF' qhP';(have qF' := qF9k True.intro);clear qF9k;(obtain ⟨qT9, qe9, qo9, qn9⟩ := qhP';subst qe9);(try dsimp only at qn9);(have qN'' := newsAdd qF9 qN' qo9 qn9);(have qne9 := newsNe qN9 qn9);clear qN';(simp only [List.forall_mem_cons, List.not_mem_nil, false_implies, implies_true, and_true] at qne9);(try dsimp only)))
  k_with "assign Tuple" => ((k_here;k_dflt (refine' asgPair ?F_r28 ?N_r28 ?hh_r28 ?ht_r28 ?_;(case F_r28 => k_asm);(case N_r28 => k_asm);(case hh_r28 => assumption);(case ht_r28 => kun_tup);k_whole);intro qh' qF' qN' qkK;(try dsimp only)))
  k_with "go3" => (repeat' ((fail_if_success (with_reducible show Exists _));(fail_if_success (with_reducible show _ ∧ Keeps _ _));(fail_if_success (with_reducible show wpAny _ _ (exec (Stmt.Assign _ (PySem.Expr.ListComp _ _ _ _) _) _) _ _ _));(fail_if_success (with_reducible show wpAny _ _ (exec (Stmt.For _ _ _ _ _) _) _ _ _));first | (k_unfold;(try dsimp only)) | walk1 | (dsimp only;walk1) | fail "no step"))
  k_with "call type:enumerate" => ((k_here;(with_reducible show wpAny _ _ (call (Value.type "enumerate") [Value.ref _]) _ _ _);k_dflt (refine' enumT ?F_r30 ?N_r30 ?m_r30 ?_;(case F_r30 => k_asm);(case N_r30 => k_asm);(case m_r30 => k_mem));intro qe qh' qF' qN' qkE;(try dsimp only)))
  k_with "go4" => (repeat' ((fail_if_success (with_reducible show Exists _));(fail_if_success (with_reducible show _ ∧ Keeps _ _));(fail_if_success (with_reducible show wpAny _ _ (eval (PySem.Expr.ListComp _ _ _ _) _) _ _ _));(fail_if_success (with_reducible show wpAny _ _ (exec (Stmt.Assign _ (PySem.Expr.ListComp _ _ _ _) _) _) _ _ _));first | (k_unfold;(try dsimp only)) | walk1 | (dsimp only;walk1) | fail "no step"))
  k_with "call ref" => ((k_here;k_dflt (refine' order_ok ?R_r32 ?g_r32 ?z_r32 ?sm_r32 ?hc_r32 _ _ _ _ _ _ _ _ _ _ ?h1_r32 ?h2_r32 ?h3_r32 ?h4_r32 ?h5_r32 ?h6_r32 ?B_r32 ?F_r32 ?X_r32 ?T_r32 ?_;(case R_r32 => walk_at "reads");(case g_r32 => assumption);(case z_r32 => assumption);(case sm_r32 => assumption);(case hc_r32 => assumption);(case h1_r32 => assumption);(case h2_r32 => first | exact Around.frames_deeper (Below.stack (by assumption)) | assumption);(case h3_r32 => exact rfl);(case h4_r32 => exact rfl);(case h5_r32 => walk_at "room");(case h6_r32 => walk_at "units");(case B_r32 => assumption);(case F_r32 => assumption);(case X_r32 => assumption);(case T_r32 => assumption));intro qv9 qh' qtk' qdr' qkK;(try dsimp only at qkK);(rename News _ _ _ _ => qN9);(have qN' := Keep.news qkK qN9);(rename Fr _ _ _ _ => qF9);(have qF9k := fun (_ : True) => Keep.fr qkK qF9);intro qhF' qhP';(have qF' := qF9k True.intro);clear qF9k;(obtain ⟨qD9, qT9, qP9, qk9, qe9, qoD9, qoT9, qoP9, qnD9, qnT9, qnP9⟩ := qhP';subst qe9);(try dsimp only at qnD9 qnT9 qnP9);(have qNp := newsAdd qF9 qN' qoP9 qnP9);(have qNt := newsAdd qF9 qNp qoT9 qnT9);(have qNd := newsAdd qF9 qNt qoD9 qnD9);(have qneP := newsNe qN9 qnP9);(have qneT := newsNe qN9 qnT9);(have qneD := newsNe qN9 qnD9);(have qnePT := ne3 qoD9 qoT9 qoP9);clear qN' qNp qNt;(simp only [List.forall_mem_cons, List.not_mem_nil, false_implies, implies_true, and_true] at qneP qneT qneD);(try dsimp only)))
  k_with "call ref" => ((k_here;k_dflt (refine' want_raises ?R_r33 ?g_r33 ?z_r33 ?sm_r33 ?form_r33 ?P_r33 _ _ _ _ _ _ _ _ _ _ ?h1_r33 ?h2_r33 ?h3_r33 ?h4_r33 ?h5_r33 ?h6_r33 ?B_r33 ?F_r33 ?X_r33 ?T_r33 ?KD_r33 ?_;(case R_r33 => walk_at "reads");(case g_r33 => assumption);(case z_r33 => assumption);(case sm_r33 => assumption);(case form_r33 => assumption);(case P_r33 => exact ⟨_, News.get (by k_asm) (by k_mem), rfl, _, rfl⟩);(case h1_r33 => assumption);(case h2_r33 => first | exact Around.frames_deeper (Below.stack (by assumption)) | assumption);(case h3_r33 => exact rfl);(case h4_r33 => exact rfl);(case h5_r33 => walk_at "room");(case h6_r33 => walk_at "units");(case B_r33 => assumption);(case F_r33 => assumption);(case X_r33 => assumption);(case T_r33 => assumption);(case KD_r33 => exact ktsKeep (by assumption) (Fr.keep (by k_asm))));intro qe9 qh' qtk' qdr' qth9;(try dsimp only at qth9);(try dsimp only)))
  k_with "k_ne" => ((refine neN ?_;(try dsimp only);first | assumption | exact Ne.symm (by assumption) | exact Nat.ne_of_lt (by assumption) | exact Nat.ne_of_gt (by assumption) | exact (And.left (by assumption)) | exact (Ne.symm (And.left (by assumption))) | exact (Nat.ne_of_lt (And.left (by assumption))) | exact (Nat.ne_of_gt (And.left (by assumption))) | exact (And.left (And.right (by assumption))) | exact (Ne.symm (And.left (And.right (by assumption)))) | exact (Nat.ne_of_lt (And.left (And.right (by assumption)))) | exact (Nat.ne_of_gt (And.left (And.right (by assumption)))) | exact (And.right (by assumption)) | exact (Ne.symm (And.right (by assumption))) | exact (Nat.ne_of_lt (And.right (by assumption))) | exact (Nat.ne_of_gt (And.right (by assumption))) | exact (And.left (And.right (And.right (by assumption)))) | exact (Ne.symm (And.left (And.right (And.right (by assumption))))) | exact (Nat.ne_of_lt (And.left (And.right (And.right (by assumption))))) | exact (Nat.ne_of_gt (And.left (And.right (And.right (by assumption))))) | exact (And.right (And.right (by assumption))) | exact (Ne.symm (And.right (And.right (by assumption)))) | exact (Nat.ne_of_lt (And.right (And.right (by assumption)))) | exact (Nat.ne_of_gt (And.right (And.right (by assumption)))) | exact (And.left (And.right (And.right (And.right (by assumption))))) | exact (Ne.symm (And.left (And.right (And.right (And.right (by assumption)))))) | exact (Nat.ne_of_lt (And.left (And.right (And.right (And.right (by assumption)))))) | exact (Nat.ne_of_gt (And.left (And.right (And.right (And.right (by assumption)))))) | exact (And.right (And.right (And.right (by assumption)))) | exact (Ne.symm (And.right (And.right (And.right (by assumption))))) | exact (Nat.ne_of_lt (And.right (And.right (And.right (by assumption))))) | exact (Nat.ne_of_gt (And.right (And.right (And.right (by assumption))))) | exact (And.left (And.right (And.right (And.right (And.right (by assumption)))))) | exact (Ne.symm (And.left (And.right (And.right (And.right (And.right (by assumption))))))) | exact (Nat.ne_of_lt (And.left (And.right (And.right (And.right (And.right (by assumption))))))) | exact (Nat.ne_of_gt (And.left (And.right (And.right (And.right (And.right (by assumption))))))) | exact (And.right (And.right (And.right (And.right (by assumption))))) | exact (Ne.symm (And.right (And.right (And.right (And.right (by assumption)))))) | exact (Nat.ne_of_lt (And.right (And.right (And.right (And.right (by assumption)))))) | exact (Nat.ne_of_gt (And.right (And.right (And.right (And.right (by assumption)))))) | exact (And.left (And.right (And.right (And.right (And.right (And.right (by assumption))))))) | exact (Ne.symm (And.left (And.right (And.right (And.right (And.right (And.right (by assumption)))))))) | exact (Nat.ne_of_lt (And.left (And.right (And.right (And.right (And.right (And.right (by assumption)))))))) | exact (Nat.ne_of_gt (And.left (And.right (And.right (And.right (And.right (And.right (by assumption)))))))) | exact (And.right (And.right (And.right (And.right (And.right (by assumption)))))) | exact (Ne.symm (And.right (And.right (And.right (And.right (And.right (by assumption))))))) | exact (Nat.ne_of_lt (And.right (And.right (And.right (And.right (And.right (by assumption))))))) | exact (Nat.ne_of_gt (And.right (And.right (And.right (And.right (And.right (by assumption))))))) | exact (And.left (And.right (And.right (And.right (And.right (And.right (And.right (by assumption)))))))) | exact (Ne.symm (And.left (And.right (And.right (And.right (And.right (And.right (And.right (by assumption))))))))) | exact (Nat.ne_of_lt (And.left (And.right (And.right (And.right (And.right (And.right (And.right (by assumption))))))))) | exact (Nat.ne_of_gt (And.left (And.right (And.right (And.right (And.right (And.right (And.right (by assumption))))))))) | exact (And.right (And.right (And.right (And.right (And.right (And.right (by assumption))))))) | exact (Ne.symm (And.right (And.right (And.right (And.right (And.right (And.right (by assumption)))))))) | exact (Nat.ne_of_lt (And.right (And.right (And.right (And.right (And.right (And.right (by assumption)))))))) | exact (Nat.ne_of_gt (And.right (And.right (And.right (And.right (And.right (And.right (by assumption)))))))) | omega))
  trivial
namespace want_ok_n
noncomputable def Wk (w : World) (mean : ExcName → Option Value) (mg : Str → Option Value) (mb : Str → Option Value) (s : Shared) (v : Value) (A : Around) (base : Heap) (outer : List Env) (L' : Addr) (h₁ : Heap) : Prop := ∀ (d : PyData) (P : Addr) (R : Reads s.heap v d []) (hg : good 51 d) (hz : sz d ≤ 900) (hsmall : (kids (kid d 2)).all pairOk = true → (kids (kid d 2)).length ≤ 2) (hform : formB d = true), EntP (PostF s (fun _ r => r = .none)) w mean mg mb s A base outer L' h₁ 4 500 [(Str.ofString "paper", v), (Str.ofString "path", .ref P)] (envAt 109 L') (stAt 109)
theorem inhab : Nonempty ((World) × (ExcName → Option Value) × (Str → Option Value) × (Str → Option Value) × (Shared) × (Value) × (Around) × (Heap) × (List Env) × (Addr) × (Heap)) := ⟨((aWorld 1), (fun _ => none), (fun _ => none), (fun _ => none), ({}), (.none), ({}), ({}), ([]), (0), ({}))⟩
noncomputable def cc : (World) × (ExcName → Option Value) × (Str → Option Value) × (Str → Option Value) × (Shared) × (Value) × (Around) × (Heap) × (List Env) × (Addr) × (Heap) := pickA inhab fun c => Wk c.1 c.2.1 c.2.2.1 c.2.2.2.1 c.2.2.2.2.1 c.2.2.2.2.2.1 c.2.2.2.2.2.2.1 c.2.2.2.2.2.2.2.1 c.2.2.2.2.2.2.2.2.1 c.2.2.2.2.2.2.2.2.2.1 c.2.2.2.2.2.2.2.2.2.2
@[irreducible] noncomputable def w : World := cc.1
@[irreducible] noncomputable def mean : ExcName → Option Value := cc.2.1
@[irreducible] noncomputable def mg : Str → Option Value := cc.2.2.1
@[irreducible] noncomputable def mb : Str → Option Value := cc.2.2.2.1
@[irreducible] noncomputable def s : Shared := cc.2.2.2.2.1
@[irreducible] noncomputable def v : Value := cc.2.2.2.2.2.1
@[irreducible] noncomputable def A : Around := cc.2.2.2.2.2.2.1
@[irreducible] noncomputable def base : Heap := cc.2.2.2.2.2.2.2.1
@[irreducible] noncomputable def outer : List Env := cc.2.2.2.2.2.2.2.2.1
@[irreducible] noncomputable def L' : Addr := cc.2.2.2.2.2.2.2.2.2.1
@[irreducible] noncomputable def h₁ : Heap := cc.2.2.2.2.2.2.2.2.2.2
theorem here : Wk w mean mg mb s v A base outer L' h₁ := by
  (have hFill : ∀ P : Params, (Mine.hd.heap_39 P = Mine.hd.heap_39 P) ∧ PySem.Challenge.rw_rg0113_01 = PySem.Challenge.rw_rg0113_01 := (by k_fill; exact fillK); clear hFill)
  unfold Wk
  intro d P R hg hz hsmall hform
  refine lit_at (f := 109) (L := L') (p := EntP (PostF s (fun _ r => r = .none)) w mean mg mb s A base outer L' h₁ 4 500 [(Str.ofString "paper", v), (Str.ofString "path", .ref P)]) (by k_is) ?_
  intro hh hd hu F1 B1 X1 T1 N1
  (try dsimp only)
  walk_at "go"; all_goals (try k_data)
  all_goals (try dsimp only)
  exact ⟨_, _, _, _, rfl, Fr.keep (by assumption), rfl, rfl⟩
theorem all : ∀ c : (World) × (ExcName → Option Value) × (Str → Option Value) × (Str → Option Value) × (Shared) × (Value) × (Around) × (Heap) × (List Env) × (Addr) × (Heap), Wk c.1 c.2.1 c.2.2.1 c.2.2.2.1 c.2.2.2.2.1 c.2.2.2.2.2.1 c.2.2.2.2.2.2.1 c.2.2.2.2.2.2.2.1 c.2.2.2.2.2.2.2.2.1 c.2.2.2.2.2.2.2.2.2.1 c.2.2.2.2.2.2.2.2.2.2 := pickA_all (h := inhab) (p := fun c => Wk c.1 c.2.1 c.2.2.1 c.2.2.2.1 c.2.2.2.2.1 c.2.2.2.2.2.1 c.2.2.2.2.2.2.1 c.2.2.2.2.2.2.2.1 c.2.2.2.2.2.2.2.2.1 c.2.2.2.2.2.2.2.2.2.1 c.2.2.2.2.2.2.2.2.2.2) (by with_unfolding_all exact @here)
end want_ok_n
theorem want_ok {w : World} {mean : ExcName → Option Value} {mg mb : Str → Option Value} {s : Shared} {v : Value} {d : PyData} {P : Addr} (R : Reads s.heap v d []) (hg : good 51 d) (hz : sz d ≤ 900) (hsmall : (kids (kid d 2)).all pairOk = true → (kids (kid d 2)).length ≤ 2) (hform : formB d = true) :
    Pure w mean mg mb 109 [v, .ref P] 4 500 s (fun _ r => r = .none) := by
  (have hFill : ∀ P : Params, (Mine.hd.heap_39 P = Mine.hd.heap_39 P) ∧ PySem.Challenge.rw_rg0113_01 = PySem.Challenge.rw_rg0113_01 := (by k_fill; exact fillK); clear hFill)
  k_dflt (refine' pure_enter [(Str.ofString "paper", v), (Str.ofString "path", .ref P)] ?k6 ?k7 ?k9 ?kB (by decide) ?c5 ?c2 ?c3 ?c4 ?_; (case k6 => k_is); (case k7 => k_is); (case k9 => exact BindsTo.of_eq rfl); (case kB => exact locs rfl); (case c5 => decide); (case c2 => exact rfl); (case c3 => exact rfl); (case c4 => exact rfl))
  intro A base outer L' h₁ hh hd hu F1 B1 X1 T1 N1
  exact want_ok_n.all (w, mean, mg, mb, s, v, A, base, outer, L', h₁) d P R hg hz hsmall hform hh hd hu F1 B1 X1 T1 N1
end
section
theorem reg_tidyr0 : True := by
  k_with_none
  k_with "go" => (repeat' ((fail_if_success (with_reducible show Exists _));(fail_if_success (with_reducible show _ ∧ Keeps _ _));(fail_if_success (with_reducible show wpAny _ _ (eval (PySem.Expr.ListComp _ _ _ _) _) _ _ _));(fail_if_success (with_reducible show wpAny _ _ (exec (Stmt.Assign _ (PySem.Expr.ListComp _ _ _ _) _) _) _ _ _));(fail_if_success (with_reducible show wpAny _ _ (exec (Stmt.While _ _ _ _) _) _ _ _));(fail_if_success (with_reducible show wpAny _ _ (exec (Stmt.For _ _ _ _ _) _) _ _ _));first | (k_unfold;(try dsimp only)) | walk1 | (dsimp only;walk1) | fail "no step"))
  k_with "reads" => (first | with_reducible assumption | exact Reads.keeps (Fr.keep (by k_asm)) (by with_reducible assumption) | (refine' readsNew1 ?rF_r1 ?rN_r1 ?rM_r1 ?rR_r1;(case rF_r1 => k_asm);(case rN_r1 => k_asm);(case rM_r1 => k_mem);(case rR_r1 => with_reducible assumption)))
  k_with "call builtin:len" => ((k_here;(with_reducible show wpAny _ _ (call _ [Value.ref _]) _ _ _);k_dflt (refine' lenLst ?N_r2 ?m_r2 ?z_r2 ?_;(case N_r2 => k_asm);(case m_r2 => k_mem);(case z_r2 => first | assumption | omega);k_whole);intro _ _))
  k_with "call builtin:len" => ((k_here;k_dflt (refine' lenTup ?R_r3 ?t_r3 ?z_r3 ?_;(case R_r3 => walk_at "reads");(case t_r3 => assumption);(case z_r3 => first | assumption | omega);k_whole);intro _ _))
  k_with "call builtin:list.pop" => ((k_here;(with_reducible show wpAny _ _ (call _ [Value.ref _]) _ _ _);k_dflt (refine' popLst ?F_r4 ?N_r4 ?U_r4 ?z_r4 ?_;(case F_r4 => k_asm);(case N_r4 => k_asm);(case U_r4 => k_upd);(case z_r4 => first | assumption | omega);k_whole);intro qh' qF' qN'))
  k_with "call builtin:isinstance" => ((k_here;(with_reducible show wpAny _ _ (call _ [_, Value.type "tuple"]) _ _ _);k_dflt (refine' isiTup ?R_r5 ?_ ?_;(case R_r5 => walk_at "reads"));all_goals (intro qhI;(try intro qtkI);(try dsimp only))))
  k_with "call builtin:isinstance" => ((k_here;(with_reducible show wpAny _ _ (call _ [_, Value.type "str"]) _ _ _);k_dflt (refine' isiStr ?R_r6 ?_ ?_;(case R_r6 => walk_at "reads"));all_goals (first | (intro qxI qtI qeI qhI qlI;(try subst qeI);(try dsimp only)) | (intro qhI qtkI;(try dsimp only)))))
  k_with "subscriptTail" => ((k_here;(with_reducible show wpAny _ _ (subscriptTail _ _ _ (Value.int 0 _)) _ _ _);k_dflt (refine' itemB0 ?F_r7 ?R_r7 ?t_r7 ?k_r7 ?_ ?s_r7;(case F_r7 => k_asm);(case R_r7 => with_reducible assumption);(case t_r7 => assumption);(case k_r7 => omega);(case s_r7 => intro _;with_unfolding_all rfl);k_whole);intro qvI qrI;(try dsimp only at qrI);(try (obtain ⟨qtI, qeI⟩ := reads_strE qrI (by with_reducible assumption);subst qeI));(try dsimp only)))
  k_with "subscriptTail" => ((k_here;(with_reducible show wpAny _ _ (subscriptTail _ _ _ (Value.int 1 _)) _ _ _);k_dflt (refine' itemB1 ?F_r8 ?R_r8 ?t_r8 ?k_r8 ?_ ?s_r8;(case F_r8 => k_asm);(case R_r8 => with_reducible assumption);(case t_r8 => assumption);(case k_r8 => omega);(case s_r8 => intro _;with_unfolding_all rfl);k_whole);intro qvI qrI;(try dsimp only at qrI);(try (obtain ⟨qtI, qeI⟩ := reads_strE qrI (by with_reducible assumption);subst qeI));(try dsimp only)))
  k_with "subscriptTail" => ((k_here;(with_reducible show wpAny _ _ (subscriptTail _ _ _ (Value.int 2 _)) _ _ _);k_dflt (refine' itemB2 ?F_r9 ?R_r9 ?t_r9 ?k_r9 ?_ ?s_r9;(case F_r9 => k_asm);(case R_r9 => with_reducible assumption);(case t_r9 => assumption);(case k_r9 => omega);(case s_r9 => intro _;with_unfolding_all rfl);k_whole);intro qvI qrI;(try dsimp only at qrI);(try (obtain ⟨qtI, qeI⟩ := reads_strE qrI (by with_reducible assumption);subst qeI));(try dsimp only)))
  k_with "subscriptTail" => ((k_here;(with_reducible show wpAny _ _ (subscriptTail _ (PySem.Expr.Slice none (some _) none _) (Value.str _ _) _) _ _ _);(k_dflt (refine strCut1 (s := ⟨_, _, _, _, _⟩) (by assumption) (by assumption) ?hsz_r10 ?_));(case hsz_r10 => (rw [sizeLine_eq];omega));intro qh' qt' qk' qF' qN' qkK;(try dsimp only at qkK);(try dsimp only)))
  k_with "subscriptTail Name Slice str ref" => ((k_here;(with_reducible show wpAny _ _ (subscriptTail _ (PySem.Expr.Slice none (some _) none _) (Value.str _ _) _) _ _ _);(k_dflt (refine strCut1 (s := ⟨_, _, _, _, _⟩) (by assumption) (by assumption) ?hsz_r11 ?_));(case hsz_r11 => (rw [sizeLine_eq];omega));intro qh' qt' qk' qF' qN' qkK;(try dsimp only at qkK);(try dsimp only)))
  k_with "subscriptTail" => ((k_here;(with_reducible show wpAny _ _ (subscriptTail _ (PySem.Expr.Slice (some _) none none _) _ (Value.ref _)) _ _ _);(k_dflt (refine' sliceTup1 (s := ⟨_, _, _, _, _⟩) ?F_r12 ?N_r12 ?R_r12 ?t_r12 ?k_r12 ?z_r12 ?_ ?hs_r12 ?hg_r12;(case F_r12 => k_asm);(case N_r12 => k_asm);(case R_r12 => with_reducible assumption);(case t_r12 => assumption);(case k_r12 => omega);(case z_r12 => omega);(case hs_r12 => intro _;with_unfolding_all rfl);(case hg_r12 => intro _ _;with_unfolding_all rfl)));intro qD' qh' qvs' qF' qN' qR' ql1 qe1;(try k_lt ql1);(try dsimp only)))
  k_with "call builtin:list.extend" => ((k_here;(k_dflt (refine' extLst ?F_r13 ?N_r13 ?b_r13 ?U_r13 ?z_r13 ?_;(case F_r13 => k_asm);(case N_r13 => k_asm);(case b_r13 => k_mem);(case U_r13 => intro qk9;k_upd);(case z_r13 => omega)));intro qh' qk' qF' qN';(try dsimp only)))
  k_with "good" => (first | exact good_shaped (by assumption) (by omega) | exact good_shaped (good_filter (by assumption)) (by omega))
  k_with "units" => (first | exact addLt (by assumption) (by decide) | exact addLt1 (c := 3) (by assumption) (by decide) | exact addLt1 (c := 1) (by assumption) (by decide) | exact addLt2 (c := 3) (d := 1) (by assumption) (by decide) | exact addLt2 (c := 3) (d := 3) (by assumption) (by decide) | omega | ((try simp only [Around.deeper_units, units_in1]);omega))
  k_with "compareOp NotEq ref ref" => ((k_here;(with_reducible show wpAny _ _ (compareOp CmpOp.NotEq (Value.ref _) (Value.ref _)) _ _ _);k_dflt (refine' neNil ?F_r16 ?N_r16 ?E_r16 ?RA_r16 ?D_r16 ?a_r16 ?u_r16 ?_;(case F_r16 => k_asm);(case N_r16 => k_asm);(case E_r16 => k_mem);(case D_r16 => k_mem);(case RA_r16 => with_reducible assumption);(case a_r16 => walk_at "good");(case u_r16 => walk_at "units");k_whole);(try dsimp only)))
  k_with "compareOp Eq ref ref" => ((k_here;(with_reducible show wpAny _ _ (compareOp CmpOp.Eq (Value.ref _) (Value.ref _)) _ _ _);k_dflt (refine' eqNil ?F_r17 ?N_r17 ?E_r17 ?RA_r17 ?D_r17 ?a_r17 ?u_r17 ?_;(case F_r17 => k_asm);(case N_r17 => k_asm);(case E_r17 => k_mem);(case D_r17 => k_mem);(case RA_r17 => with_reducible assumption);(case a_r17 => walk_at "good");(case u_r17 => walk_at "units");k_whole);(try dsimp only)))
  k_with "call type:set" => ((k_here;(with_reducible show wpAny _ _ (call (Value.type "set") [Value.ref _]) _ _ _);k_dflt (refine' setStrs ?hh_r18 ?F_r18 ?N_r18 ?D_r18 ?S_r18 ?z_r18 ?_;(case hh_r18 => assumption);(case F_r18 => k_asm);(case N_r18 => k_asm);(case D_r18 => k_mem);(case S_r18 => with_reducible assumption);(case z_r18 => with_reducible assumption));intro qD' qh' qo' qtk' qF' qN' ql1 qsO;(try k_lt ql1);(try dsimp only)))
  k_with "call builtin:sorted" => ((k_here;(with_reducible show wpAny _ _ (call (Value.builtin "sorted") [Value.ref _]) _ _ _);k_dflt (refine' sortedSet ?hh_r19 ?F_r19 ?N_r19 ?D_r19 ?S_r19 ?z_r19 ?_;(case hh_r19 => assumption);(case F_r19 => k_asm);(case N_r19 => k_asm);(case D_r19 => k_mem);(case S_r19 => with_reducible assumption);(case z_r19 => with_reducible assumption));intro qD' qh' qtk' qdr' qvs' qss' qk' qF' qN' ql1 qsA qpA qsS;(try k_lt ql1);(try dsimp only)))
  k_with "compareOp Eq ref ref" => ((k_here;(with_reducible show wpAny _ _ (compareOp CmpOp.Eq (Value.ref _) (Value.ref _)) _ _ _);k_dflt (refine' eqNames ?F_r20 ?N_r20 ?D_r20 ?E_r20 ?SD_r20 ?SE_r20 ?p_r20 ?s_r20 ?ok_r20 ?z_r20 ?u_r20 ?_;(case F_r20 => k_asm);(case N_r20 => k_asm);(case D_r20 => k_mem);(case E_r20 => k_mem);(case SD_r20 => with_reducible assumption);(case SE_r20 => with_reducible assumption);(case p_r20 => with_reducible assumption);(case s_r20 => with_reducible assumption);(case ok_r20 => with_reducible assumption);(case z_r20 => with_reducible assumption);(case u_r20 => walk_at "units");k_whole);(try dsimp only)))
  k_with "room" => (first | exact addLt (by assumption) (by decide) | exact addLt1 (c := 1) (by assumption) (by decide) | exact addLt2 (c := 1) (d := 1) (by assumption) (by decide) | omega | ((try simp only [depth_deeper, depth_in1]);omega))
  k_with "call ref" => ((k_here;k_dflt (refine' plain_ok ?R_r22 ?z_r22 _ _ _ _ _ _ _ _ _ _ ?h1_r22 ?h2_r22 ?h3_r22 ?h4_r22 ?h5_r22 ?h6_r22 ?B_r22 ?F_r22 ?X_r22 ?T_r22 ?_;(case R_r22 => walk_at "reads");(case z_r22 => first | assumption | omega | (simp only [sz, szAll];omega));(case h1_r22 => assumption);(case h2_r22 => first | exact Around.frames_deeper (Below.stack (by assumption)) | assumption);(case h3_r22 => exact rfl);(case h4_r22 => exact rfl);(case h5_r22 => walk_at "room");(case h6_r22 => walk_at "units");(case B_r22 => assumption);(case F_r22 => assumption);(case X_r22 => assumption);(case T_r22 => assumption));intro qv9 qh' qtk' qkK;(try dsimp only at qkK);(rename News _ _ _ _ => qN9);(have qN' := Keep.news qkK qN9);(rename Fr _ _ _ _ => qF9);(have qF9k := fun (_ : True) => Keep.fr qkK qF9);intro qhF' qhP';(have qF' := qF9k True.intro);clear qF9k;(try subst qhP');(try dsimp only)))
  k_with "call ref" => ((k_here;k_dflt (refine' places_ok ?R_r23 ?g_r23 ?sm_r23 _ _ _ _ _ _ _ _ _ _ ?h1_r23 ?h2_r23 ?h3_r23 ?h4_r23 ?h5_r23 ?h6_r23 ?B_r23 ?F_r23 ?X_r23 ?T_r23 ?_;(case R_r23 => walk_at "reads");(case g_r23 => first | assumption | exact good_kids (by assumption) _ (kid_mem (by omega)));(case sm_r23 => assumption);(case h1_r23 => assumption);(case h2_r23 => first | exact Around.frames_deeper (Below.stack (by assumption)) | assumption);(case h3_r23 => exact rfl);(case h4_r23 => exact rfl);(case h5_r23 => walk_at "room");(case h6_r23 => walk_at "units");(case B_r23 => assumption);(case F_r23 => assumption);(case X_r23 => assumption);(case T_r23 => assumption));intro qv9 qh' qtk' qdr' qkK;(try dsimp only at qkK);(rename News _ _ _ _ => qN9);(have qN' := Keep.news qkK qN9);(rename Fr _ _ _ _ => qF9);(have qF9k := fun (_ : True) => Keep.fr qkK qF9);intro qhF' qhP';(have qF' := qF9k True.intro);clear qF9k;(try subst qhP');(try dsimp only)))
  k_with "unpackItems ref" => ((k_here;k_dflt (refine' unpackTup ?F_r24 ?N_r24 ?hh_r24 ?ht_r24 ?hn_r24 ?_;(case F_r24 => k_asm);(case N_r24 => k_asm);(case hh_r24 => assumption);(case ht_r24 => kun_tup);(case hn_r24 => exact rfl);k_whole);intro qh' qF' qN' qkK;(try dsimp only)))
  k_with "go2" => (repeat' ((fail_if_success (with_reducible show Exists _));(fail_if_success (with_reducible show _ ∧ Keeps _ _));(fail_if_success (with_reducible show wpAny _ _ (eval (PySem.Expr.ListComp _ _ _ _) _) _ _ _));(fail_if_success (with_reducible show wpAny _ _ (exec (Stmt.Assign _ (PySem.Expr.ListComp _ _ _ _) _) _) _ _ _));(fail_if_success (with_reducible show wpAny _ _ (exec (Stmt.For _ _ _ _ _) _) _ _ _));first | (k_unfold;(try dsimp only)) | walk1 | (dsimp only;walk1) | fail "no step"))
  k_with "call ref" => ((k_here;k_dflt (refine' form_ok ?R_r26 ?g_r26 ?z_r26 ?sm_r26 _ _ _ _ _ _ _ _ _ _ ?h1_r26 ?h2_r26 ?h3_r26 ?h4_r26 ?h5_r26 ?h6_r26 ?B_r26 ?F_r26 ?X_r26 ?T_r26 ?_;(case R_r26 => walk_at "reads");(case g_r26 => assumption);(case z_r26 => assumption);(case sm_r26 => assumption);(case h1_r26 => assumption);(case h2_r26 => first | exact Around.frames_deeper (Below.stack (by assumption)) | assumption);(case h3_r26 => exact rfl);(case h4_r26 => exact rfl);(case h5_r26 => walk_at "room");(case h6_r26 => walk_at "units");(case B_r26 => assumption);(case F_r26 => assumption);(case X_r26 => assumption);(case T_r26 => assumption));intro qv9 qh' qtk' qdr' qkK;(try dsimp only at qkK);(rename News _ _ _ _ => qN9);(have qN' := Keep.news qkK qN9);(rename Fr _ _ _ _ => qF9);(have qF9k := fun (_ : True) => Keep.fr qkK qF9);intro qhF' qhP';(have qF' := qF9k True.intro);clear qF9k;(try subst qhP');(try dsimp only)))
  k_with "call ref" => ((k_here;k_dflt (refine' parts_ok ?R_r27 ?t_r27 ?l_r27 ?o_r27 _ _ _ _ _ _ _ _ _ _ ?h1_r27 ?h2_r27 ?h3_r27 ?h4_r27 ?h5_r27 ?h6_r27 ?B_r27 ?F_r27 ?X_r27 ?T_r27 ?_;(case R_r27 => walk_at "reads");(case t_r27 => assumption);(case l_r27 => assumption);(case o_r27 => assumption);(case h1_r27 => assumption);(case h2_r27 => first | exact Around.frames_deeper (Below.stack (by assumption)) | assumption);(case h3_r27 => exact rfl);(case h4_r27 => exact rfl);(case h5_r27 => walk_at "room");(case h6_r27 => walk_at "units");(case B_r27 => assumption);(case F_r27 => assumption);(case X_r27 => assumption);(case T_r27 => assumption));intro qv9 qh' qtk' qkK;(try dsimp only at qkK);(rename News _ _ _ _ => qN9);(have qN' := Keep.news qkK qN9);(rename Fr _ _ _ _ => qF9);(have qF9k := fun (_ : True) => Keep.fr qkK qF9);intro qhF' qhP';(have qF' := qF9k True.intro);clear qF9k;(obtain ⟨qT9, qe9, qo9, qn9⟩ := qhP';subst qe9);(try dsimp only at qn9);(have qN'' := newsAdd qF9 qN' qo9 qn9);(have qne9 := newsNe qN9 qn9);clear qN';(simp only [List.forall_mem_cons, List.not_mem_nil, false_implies, implies_true, and_true] at qne9);(try dsimp only)))
  k_with "assign Tuple" => ((k_here;k_dflt (refine' asgPair ?F_r28 ?N_r28 ?hh_r28 ?ht_r28 ?_;(case F_r28 => k_asm);(case N_r28 => k_asm);(case hh_r28 => assumption);(case ht_r28 => kun_tup);k_whole);intro qh' qF' qN' qkK;(try dsimp only)))
  k_with "go3" => (repeat' ((fail_if_success (with_reducible show Exists _));(fail_if_success (with_reducible show _ ∧ Keeps _ _));(fail_if_success (with_reducible show wpAny _ _ (exec (Stmt.Assign _ (PySem.Expr.ListComp _ _ _ _) _) _) _ _ _));(fail_if_success (with_reducible show wpAny _ _ (exec (Stmt.For _ _ _ _ _) _) _ _ _));first | (k_unfold;(try dsimp only)) | walk1 | (dsimp only;walk1) | fail "no step"))
  k_with "call type:enumerate" => ((k_here;(with_reducible show wpAny _ _ (call (Value.type "enumerate") [Value.ref _]) _ _ _);k_dflt (refine' enumT ?F_r30 ?N_r30 ?m_r30 ?_;(case F_r30 => k_asm);(case N_r30 => k_asm);(case m_r30 => k_mem));intro qe qh' qF' qN' qkE;(try dsimp only)))
  k_with "go4" => (repeat' ((fail_if_success (with_reducible show Exists _));(fail_if_success (with_reducible show _ ∧ Keeps _ _));(fail_if_success (with_reducible show wpAny _ _ (eval (PySem.Expr.ListComp _ _ _ _) _) _ _ _));(fail_if_success (with_reducible show wpAny _ _ (exec (Stmt.Assign _ (PySem.Expr.ListComp _ _ _ _) _) _) _ _ _));first | (k_unfold;(try dsimp only)) | walk1 | (dsimp only;walk1) | fail "no step"))
  k_with "call ref" => ((k_here;k_dflt (refine' order_ok ?R_r32 ?g_r32 ?z_r32 ?sm_r32 ?hc_r32 _ _ _ _ _ _ _ _ _ _ ?h1_r32 ?h2_r32 ?h3_r32 ?h4_r32 ?h5_r32 ?h6_r32 ?B_r32 ?F_r32 ?X_r32 ?T_r32 ?_;(case R_r32 => walk_at "reads");(case g_r32 => assumption);(case z_r32 => assumption);(case sm_r32 => assumption);(case hc_r32 => assumption);(case h1_r32 => assumption);(case h2_r32 => first | exact Around.frames_deeper (Below.stack (by assumption)) | assumption);(case h3_r32 => exact rfl);(case h4_r32 => exact rfl);(case h5_r32 => walk_at "room");(case h6_r32 => walk_at "units");(case B_r32 => assumption);(case F_r32 => assumption);(case X_r32 => assumption);(case T_r32 => assumption));intro qv9 qh' qtk' qdr' qkK;(try dsimp only at qkK);(rename News _ _ _ _ => qN9);(have qN' := Keep.news qkK qN9);(rename Fr _ _ _ _ => qF9);(have qF9k := fun (_ : True) => Keep.fr qkK qF9);intro qhF' qhP';(have qF' := qF9k True.intro);clear qF9k;(obtain ⟨qD9, qT9, qP9, qk9, qe9, qoD9, qoT9, qoP9, qnD9, qnT9, qnP9⟩ := qhP';subst qe9);(try dsimp only at qnD9 qnT9 qnP9);(have qNp := newsAdd qF9 qN' qoP9 qnP9);(have qNt := newsAdd qF9 qNp qoT9 qnT9);(have qNd := newsAdd qF9 qNt qoD9 qnD9);(have qneP := newsNe qN9 qnP9);(have qneT := newsNe qN9 qnT9);(have qneD := newsNe qN9 qnD9);(have qnePT := ne3 qoD9 qoT9 qoP9);clear qN' qNp qNt;(simp only [List.forall_mem_cons, List.not_mem_nil, false_implies, implies_true, and_true] at qneP qneT qneD);(try dsimp only)))
  k_with "call ref" => ((k_here;k_dflt (refine' want_raises ?R_r33 ?g_r33 ?z_r33 ?sm_r33 ?form_r33 ?P_r33 _ _ _ _ _ _ _ _ _ _ ?h1_r33 ?h2_r33 ?h3_r33 ?h4_r33 ?h5_r33 ?h6_r33 ?B_r33 ?F_r33 ?X_r33 ?T_r33 ?KD_r33 ?_;(case R_r33 => walk_at "reads");(case g_r33 => assumption);(case z_r33 => assumption);(case sm_r33 => assumption);(case form_r33 => assumption);(case P_r33 => exact ⟨_, News.get (by k_asm) (by k_mem), rfl, _, rfl⟩);(case h1_r33 => assumption);(case h2_r33 => first | exact Around.frames_deeper (Below.stack (by assumption)) | assumption);(case h3_r33 => exact rfl);(case h4_r33 => exact rfl);(case h5_r33 => walk_at "room");(case h6_r33 => walk_at "units");(case B_r33 => assumption);(case F_r33 => assumption);(case X_r33 => assumption);(case T_r33 => assumption);(case KD_r33 => exact ktsKeep (by assumption) (Fr.keep (by k_asm))));intro qe9 qh' qtk' qdr' qth9;(try dsimp only at qth9);(try dsimp only)))
  k_with "k_ne" => ((refine neN ?_;(try dsimp only);first | assumption | exact Ne.symm (by assumption) | exact Nat.ne_of_lt (by assumption) | exact Nat.ne_of_gt (by assumption) | exact (And.left (by assumption)) | exact (Ne.symm (And.left (by assumption))) | exact (Nat.ne_of_lt (And.left (by assumption))) | exact (Nat.ne_of_gt (And.left (by assumption))) | exact (And.left (And.right (by assumption))) | exact (Ne.symm (And.left (And.right (by assumption)))) | exact (Nat.ne_of_lt (And.left (And.right (by assumption)))) | exact (Nat.ne_of_gt (And.left (And.right (by assumption)))) | exact (And.right (by assumption)) | exact (Ne.symm (And.right (by assumption))) | exact (Nat.ne_of_lt (And.right (by assumption))) | exact (Nat.ne_of_gt (And.right (by assumption))) | exact (And.left (And.right (And.right (by assumption)))) | exact (Ne.symm (And.left (And.right (And.right (by assumption))))) | exact (Nat.ne_of_lt (And.left (And.right (And.right (by assumption))))) | exact (Nat.ne_of_gt (And.left (And.right (And.right (by assumption))))) | exact (And.right (And.right (by assumption))) | exact (Ne.symm (And.right (And.right (by assumption)))) | exact (Nat.ne_of_lt (And.right (And.right (by assumption)))) | exact (Nat.ne_of_gt (And.right (And.right (by assumption)))) | exact (And.left (And.right (And.right (And.right (by assumption))))) | exact (Ne.symm (And.left (And.right (And.right (And.right (by assumption)))))) | exact (Nat.ne_of_lt (And.left (And.right (And.right (And.right (by assumption)))))) | exact (Nat.ne_of_gt (And.left (And.right (And.right (And.right (by assumption)))))) | exact (And.right (And.right (And.right (by assumption)))) | exact (Ne.symm (And.right (And.right (And.right (by assumption))))) | exact (Nat.ne_of_lt (And.right (And.right (And.right (by assumption))))) | exact (Nat.ne_of_gt (And.right (And.right (And.right (by assumption))))) | exact (And.left (And.right (And.right (And.right (And.right (by assumption)))))) | exact (Ne.symm (And.left (And.right (And.right (And.right (And.right (by assumption))))))) | exact (Nat.ne_of_lt (And.left (And.right (And.right (And.right (And.right (by assumption))))))) | exact (Nat.ne_of_gt (And.left (And.right (And.right (And.right (And.right (by assumption))))))) | exact (And.right (And.right (And.right (And.right (by assumption))))) | exact (Ne.symm (And.right (And.right (And.right (And.right (by assumption)))))) | exact (Nat.ne_of_lt (And.right (And.right (And.right (And.right (by assumption)))))) | exact (Nat.ne_of_gt (And.right (And.right (And.right (And.right (by assumption)))))) | exact (And.left (And.right (And.right (And.right (And.right (And.right (by assumption))))))) | exact (Ne.symm (And.left (And.right (And.right (And.right (And.right (And.right (by assumption)))))))) | exact (Nat.ne_of_lt (And.left (And.right (And.right (And.right (And.right (And.right (by assumption)))))))) | exact (Nat.ne_of_gt (And.left (And.right (And.right (And.right (And.right (And.right (by assumption)))))))) | exact (And.right (And.right (And.right (And.right (And.right (by assumption)))))) | exact (Ne.symm (And.right (And.right (And.right (And.right (And.right (by assumption))))))) | exact (Nat.ne_of_lt (And.right (And.right (And.right (And.right (And.right (by assumption))))))) | exact (Nat.ne_of_gt (And.right (And.right (And.right (And.right (And.right (by assumption))))))) | exact (And.left (And.right (And.right (And.right (And.right (And.right (And.right (by assumption)))))))) | exact (Ne.symm (And.left (And.right (And.right (And.right (And.right (And.right (And.right (by assumption))))))))) | exact (Nat.ne_of_lt (And.left (And.right (And.right (And.right (And.right (And.right (And.right (by assumption))))))))) | exact (Nat.ne_of_gt (And.left (And.right (And.right (And.right (And.right (And.right (And.right (by assumption))))))))) | exact (And.right (And.right (And.right (And.right (And.right (And.right (by assumption))))))) | exact (Ne.symm (And.right (And.right (And.right (And.right (And.right (And.right (by assumption)))))))) | exact (Nat.ne_of_lt (And.right (And.right (And.right (And.right (And.right (And.right (by assumption)))))))) | exact (Nat.ne_of_gt (And.right (And.right (And.right (And.right (And.right (And.right (by assumption)))))))) | omega))
  trivial
theorem tidied_raises {w : World} {mean : ExcName → Option Value} {mg mb : Str → Option Value} {s : Shared} {v : Value} {d : PyData} (R : Reads s.heap v d []) (hg : good 51 d) (hz : sz d ≤ 900) (hsmall : (kids (kid d 2)).all pairOk = true → (kids (kid d 2)).length ≤ 2) (hform : formB d = false) :
    Raises w mean mg mb 133 [v] 10 800 s := by
  (have hFill : ∀ P : Params, (Mine.hd.heap_39 P = Mine.hd.heap_39 P) ∧ PySem.Challenge.rw_rg0113_01 = PySem.Challenge.rw_rg0113_01 := (by k_fill; exact fillK); clear hFill)
  have hc : formB d = true → ∃ x, kid d 0 = .str x ∧ bareKind x := fun q => by rw [hform] at q; cases q
  intro A A₀ base h₀ outer env L m Q E hh hA hf hke hd hu B F X T KD ret
  refine wpAny_call ?_
  refine' callFC (binds := [(Str.ofString "paper", v)]) B F X T.nolimit hA hf hke ?k6 ?k7 (by omega) ?k9 ?kB ?kD ?_ ?c2 ?c3 ?c4
  case k6 => k_is
  case k7 => k_is
  case k9 => exact BindsTo.of_eq rfl
  case kB => exact rfl
  case kD => decide +kernel
  case c2 => exact rfl
  case c3 => exact rfl
  case c4 => exact rfl
  intro L' h₁ tk₁ cells F1 N1 Y1 B1
  k_cells Y1
  have X1 := X.keeps F.keep
  have T1 := T.keeps F.keep
  have KD' := ktsCons F hf KD
  clear F X T B
  walk_at "go4"; all_goals (try k_data)
  all_goals (try dsimp only)
  k_dflt (refine' for1 ?hh ?hs ?hit; (case hh => assumption); (case hs => intro _; with_unfolding_all rfl))
  walk_at "go4"; all_goals (try k_data)
  all_goals (try dsimp only)
  refine ⟨_, _, _, rfl, News.get (by assumption) (by k_mem), ?_⟩
  intro I hI oI kI nI gI
  (try dsimp only at kI nI)
  rename News _ _ _ _ => N9
  rename Fr _ _ _ _ => F9
  have FI := Keep.fr kI F9
  have NI := newsAdd F9 (Keep.news kI N9) gI nI
  have neI := newsNe N9 nI
  simp only [List.forall_mem_cons, List.not_mem_nil, false_implies, implies_true, and_true] at neI
  clear N9 F9
  (try dsimp only)
  walk_at "go4"; all_goals (try k_data)
  all_goals (try dsimp only)
  rename Thrown _ _ _ _ => th
  rename Fr _ _ _ _ => FF
  refine thrown_loop (s := ⟨_, _, _, _, _⟩) (L := L') (Around.frames_deeper (Below.stack B1)) rfl th FF.keep (kts_self FF) fun h' x => ?_
  exact ret _ _ _ _ x
end
section
theorem reg_tidyo0 : True := by
  k_with_none
  k_with "go" => (repeat' ((fail_if_success (with_reducible show Exists _));(fail_if_success (with_reducible show _ ∧ Keeps _ _));(fail_if_success (with_reducible show wpAny _ _ (eval (PySem.Expr.ListComp _ _ _ _) _) _ _ _));(fail_if_success (with_reducible show wpAny _ _ (exec (Stmt.Assign _ (PySem.Expr.ListComp _ _ _ _) _) _) _ _ _));(fail_if_success (with_reducible show wpAny _ _ (exec (Stmt.While _ _ _ _) _) _ _ _));(fail_if_success (with_reducible show wpAny _ _ (exec (Stmt.For _ _ _ _ _) _) _ _ _));first | (k_unfold;(try dsimp only)) | walk1 | (dsimp only;walk1) | fail "no step"))
  k_with "reads" => (first | with_reducible assumption | exact Reads.keeps (Fr.keep (by k_asm)) (by with_reducible assumption) | (refine' readsNew1 ?rF_r1 ?rN_r1 ?rM_r1 ?rR_r1;(case rF_r1 => k_asm);(case rN_r1 => k_asm);(case rM_r1 => k_mem);(case rR_r1 => with_reducible assumption)))
  k_with "call builtin:len" => ((k_here;(with_reducible show wpAny _ _ (call _ [Value.ref _]) _ _ _);k_dflt (refine' lenLst ?N_r2 ?m_r2 ?z_r2 ?_;(case N_r2 => k_asm);(case m_r2 => k_mem);(case z_r2 => first | assumption | omega);k_whole);intro _ _))
  k_with "call builtin:len" => ((k_here;k_dflt (refine' lenTup ?R_r3 ?t_r3 ?z_r3 ?_;(case R_r3 => walk_at "reads");(case t_r3 => assumption);(case z_r3 => first | assumption | omega);k_whole);intro _ _))
  k_with "call builtin:list.pop" => ((k_here;(with_reducible show wpAny _ _ (call _ [Value.ref _]) _ _ _);k_dflt (refine' popLst ?F_r4 ?N_r4 ?U_r4 ?z_r4 ?_;(case F_r4 => k_asm);(case N_r4 => k_asm);(case U_r4 => k_upd);(case z_r4 => first | assumption | omega);k_whole);intro qh' qF' qN'))
  k_with "call builtin:isinstance" => ((k_here;(with_reducible show wpAny _ _ (call _ [_, Value.type "tuple"]) _ _ _);k_dflt (refine' isiTup ?R_r5 ?_ ?_;(case R_r5 => walk_at "reads"));all_goals (intro qhI;(try intro qtkI);(try dsimp only))))
  k_with "call builtin:isinstance" => ((k_here;(with_reducible show wpAny _ _ (call _ [_, Value.type "str"]) _ _ _);k_dflt (refine' isiStr ?R_r6 ?_ ?_;(case R_r6 => walk_at "reads"));all_goals (first | (intro qxI qtI qeI qhI qlI;(try subst qeI);(try dsimp only)) | (intro qhI qtkI;(try dsimp only)))))
  k_with "subscriptTail" => ((k_here;(with_reducible show wpAny _ _ (subscriptTail _ _ _ (Value.int 0 _)) _ _ _);k_dflt (refine' itemB0 ?F_r7 ?R_r7 ?t_r7 ?k_r7 ?_ ?s_r7;(case F_r7 => k_asm);(case R_r7 => with_reducible assumption);(case t_r7 => assumption);(case k_r7 => omega);(case s_r7 => intro _;with_unfolding_all rfl);k_whole);intro qvI qrI;(try dsimp only at qrI);(try (obtain ⟨qtI, qeI⟩ := reads_strE qrI (by with_reducible assumption);subst qeI));(try dsimp only)))
  k_with "subscriptTail" => ((k_here;(with_reducible show wpAny _ _ (subscriptTail _ _ _ (Value.int 1 _)) _ _ _);k_dflt (refine' itemB1 ?F_r8 ?R_r8 ?t_r8 ?k_r8 ?_ ?s_r8;(case F_r8 => k_asm);(case R_r8 => with_reducible assumption);(case t_r8 => assumption);(case k_r8 => omega);(case s_r8 => intro _;with_unfolding_all rfl);k_whole);intro qvI qrI;(try dsimp only at qrI);(try (obtain ⟨qtI, qeI⟩ := reads_strE qrI (by with_reducible assumption);subst qeI));(try dsimp only)))
  k_with "subscriptTail" => ((k_here;(with_reducible show wpAny _ _ (subscriptTail _ _ _ (Value.int 2 _)) _ _ _);k_dflt (refine' itemB2 ?F_r9 ?R_r9 ?t_r9 ?k_r9 ?_ ?s_r9;(case F_r9 => k_asm);(case R_r9 => with_reducible assumption);(case t_r9 => assumption);(case k_r9 => omega);(case s_r9 => intro _;with_unfolding_all rfl);k_whole);intro qvI qrI;(try dsimp only at qrI);(try (obtain ⟨qtI, qeI⟩ := reads_strE qrI (by with_reducible assumption);subst qeI));(try dsimp only)))
  k_with "subscriptTail" => ((k_here;(with_reducible show wpAny _ _ (subscriptTail _ (PySem.Expr.Slice none (some _) none _) (Value.str _ _) _) _ _ _);(k_dflt (refine strCut1 (s := ⟨_, _, _, _, _⟩) (by assumption) (by assumption) ?hsz_r10 ?_));(case hsz_r10 => (rw [sizeLine_eq];omega));intro qh' qt' qk' qF' qN' qkK;(try dsimp only at qkK);(try dsimp only)))
  k_with "subscriptTail Name Slice str ref" => ((k_here;(with_reducible show wpAny _ _ (subscriptTail _ (PySem.Expr.Slice none (some _) none _) (Value.str _ _) _) _ _ _);(k_dflt (refine strCut1 (s := ⟨_, _, _, _, _⟩) (by assumption) (by assumption) ?hsz_r11 ?_));(case hsz_r11 => (rw [sizeLine_eq];omega));intro qh' qt' qk' qF' qN' qkK;(try dsimp only at qkK);(try dsimp only)))
  k_with "subscriptTail" => ((k_here;(with_reducible show wpAny _ _ (subscriptTail _ (PySem.Expr.Slice (some _) none none _) _ (Value.ref _)) _ _ _);(k_dflt (refine' sliceTup1 (s := ⟨_, _, _, _, _⟩) ?F_r12 ?N_r12 ?R_r12 ?t_r12 ?k_r12 ?z_r12 ?_ ?hs_r12 ?hg_r12;(case F_r12 => k_asm);(case N_r12 => k_asm);(case R_r12 => with_reducible assumption);(case t_r12 => assumption);(case k_r12 => omega);(case z_r12 => omega);(case hs_r12 => intro _;with_unfolding_all rfl);(case hg_r12 => intro _ _;with_unfolding_all rfl)));intro qD' qh' qvs' qF' qN' qR' ql1 qe1;(try k_lt ql1);(try dsimp only)))
  k_with "call builtin:list.extend" => ((k_here;(k_dflt (refine' extLst ?F_r13 ?N_r13 ?b_r13 ?U_r13 ?z_r13 ?_;(case F_r13 => k_asm);(case N_r13 => k_asm);(case b_r13 => k_mem);(case U_r13 => intro qk9;k_upd);(case z_r13 => omega)));intro qh' qk' qF' qN';(try dsimp only)))
  k_with "good" => (first | exact good_shaped (by assumption) (by omega) | exact good_shaped (good_filter (by assumption)) (by omega))
  k_with "units" => (first | exact addLt (by assumption) (by decide) | exact addLt1 (c := 3) (by assumption) (by decide) | exact addLt1 (c := 1) (by assumption) (by decide) | exact addLt2 (c := 3) (d := 1) (by assumption) (by decide) | exact addLt2 (c := 3) (d := 3) (by assumption) (by decide) | omega | ((try simp only [Around.deeper_units, units_in1]);omega))
  k_with "compareOp NotEq ref ref" => ((k_here;(with_reducible show wpAny _ _ (compareOp CmpOp.NotEq (Value.ref _) (Value.ref _)) _ _ _);k_dflt (refine' neNil ?F_r16 ?N_r16 ?E_r16 ?RA_r16 ?D_r16 ?a_r16 ?u_r16 ?_;(case F_r16 => k_asm);(case N_r16 => k_asm);(case E_r16 => k_mem);(case D_r16 => k_mem);(case RA_r16 => with_reducible assumption);(case a_r16 => walk_at "good");(case u_r16 => walk_at "units");k_whole);(try dsimp only)))
  k_with "compareOp Eq ref ref" => ((k_here;(with_reducible show wpAny _ _ (compareOp CmpOp.Eq (Value.ref _) (Value.ref _)) _ _ _);k_dflt (refine' eqNil ?F_r17 ?N_r17 ?E_r17 ?RA_r17 ?D_r17 ?a_r17 ?u_r17 ?_;(case F_r17 => k_asm);(case N_r17 => k_asm);(case E_r17 => k_mem);(case D_r17 => k_mem);(case RA_r17 => with_reducible assumption);(case a_r17 => walk_at "good");(case u_r17 => walk_at "units");k_whole);(try dsimp only)))
  k_with "call type:set" => ((k_here;(with_reducible show wpAny _ _ (call (Value.type "set") [Value.ref _]) _ _ _);k_dflt (refine' setStrs ?hh_r18 ?F_r18 ?N_r18 ?D_r18 ?S_r18 ?z_r18 ?_;(case hh_r18 => assumption);(case F_r18 => k_asm);(case N_r18 => k_asm);(case D_r18 => k_mem);(case S_r18 => with_reducible assumption);(case z_r18 => with_reducible assumption));intro qD' qh' qo' qtk' qF' qN' ql1 qsO;(try k_lt ql1);(try dsimp only)))
  k_with "call builtin:sorted" => ((k_here;(with_reducible show wpAny _ _ (call (Value.builtin "sorted") [Value.ref _]) _ _ _);k_dflt (refine' sortedSet ?hh_r19 ?F_r19 ?N_r19 ?D_r19 ?S_r19 ?z_r19 ?_;(case hh_r19 => assumption);(case F_r19 => k_asm);(case N_r19 => k_asm);(case D_r19 => k_mem);(case S_r19 => with_reducible assumption);(case z_r19 => with_reducible assumption));intro qD' qh' qtk' qdr' qvs' qss' qk' qF' qN' ql1 qsA qpA qsS;(try k_lt ql1);(try dsimp only)))
  k_with "compareOp Eq ref ref" => ((k_here;(with_reducible show wpAny _ _ (compareOp CmpOp.Eq (Value.ref _) (Value.ref _)) _ _ _);k_dflt (refine' eqNames ?F_r20 ?N_r20 ?D_r20 ?E_r20 ?SD_r20 ?SE_r20 ?p_r20 ?s_r20 ?ok_r20 ?z_r20 ?u_r20 ?_;(case F_r20 => k_asm);(case N_r20 => k_asm);(case D_r20 => k_mem);(case E_r20 => k_mem);(case SD_r20 => with_reducible assumption);(case SE_r20 => with_reducible assumption);(case p_r20 => with_reducible assumption);(case s_r20 => with_reducible assumption);(case ok_r20 => with_reducible assumption);(case z_r20 => with_reducible assumption);(case u_r20 => walk_at "units");k_whole);(try dsimp only)))
  k_with "room" => (first | exact addLt (by assumption) (by decide) | exact addLt1 (c := 1) (by assumption) (by decide) | exact addLt2 (c := 1) (d := 1) (by assumption) (by decide) | omega | ((try simp only [depth_deeper, depth_in1]);omega))
  k_with "call ref" => ((k_here;k_dflt (refine' plain_ok ?R_r22 ?z_r22 _ _ _ _ _ _ _ _ _ _ ?h1_r22 ?h2_r22 ?h3_r22 ?h4_r22 ?h5_r22 ?h6_r22 ?B_r22 ?F_r22 ?X_r22 ?T_r22 ?_;(case R_r22 => walk_at "reads");(case z_r22 => first | assumption | omega | (simp only [sz, szAll];omega));(case h1_r22 => assumption);(case h2_r22 => first | exact Around.frames_deeper (Below.stack (by assumption)) | assumption);(case h3_r22 => exact rfl);(case h4_r22 => exact rfl);(case h5_r22 => walk_at "room");(case h6_r22 => walk_at "units");(case B_r22 => assumption);(case F_r22 => assumption);(case X_r22 => assumption);(case T_r22 => assumption));intro qv9 qh' qtk' qkK;(try dsimp only at qkK);(rename News _ _ _ _ => qN9);(have qN' := Keep.news qkK qN9);(rename Fr _ _ _ _ => qF9);(have qF9k := fun (_ : True) => Keep.fr qkK qF9);intro qhF' qhP';(have qF' := qF9k True.intro);clear qF9k;(try subst qhP');(try dsimp only)))
  k_with "call ref" => ((k_here;k_dflt (refine' places_ok ?R_r23 ?g_r23 ?sm_r23 _ _ _ _ _ _ _ _ _ _ ?h1_r23 ?h2_r23 ?h3_r23 ?h4_r23 ?h5_r23 ?h6_r23 ?B_r23 ?F_r23 ?X_r23 ?T_r23 ?_;(case R_r23 => walk_at "reads");(case g_r23 => first | assumption | exact good_kids (by assumption) _ (kid_mem (by omega)));(case sm_r23 => assumption);(case h1_r23 => assumption);(case h2_r23 => first | exact Around.frames_deeper (Below.stack (by assumption)) | assumption);(case h3_r23 => exact rfl);(case h4_r23 => exact rfl);(case h5_r23 => walk_at "room");(case h6_r23 => walk_at "units");(case B_r23 => assumption);(case F_r23 => assumption);(case X_r23 => assumption);(case T_r23 => assumption));intro qv9 qh' qtk' qdr' qkK;(try dsimp only at qkK);(rename News _ _ _ _ => qN9);(have qN' := Keep.news qkK qN9);(rename Fr _ _ _ _ => qF9);(have qF9k := fun (_ : True) => Keep.fr qkK qF9);intro qhF' qhP';(have qF' := qF9k True.intro);clear qF9k;(try subst qhP');(try dsimp only)))
  k_with "unpackItems ref" => ((k_here;k_dflt (refine' unpackTup ?F_r24 ?N_r24 ?hh_r24 ?ht_r24 ?hn_r24 ?_;(case F_r24 => k_asm);(case N_r24 => k_asm);(case hh_r24 => assumption);(case ht_r24 => kun_tup);(case hn_r24 => exact rfl);k_whole);intro qh' qF' qN' qkK;(try dsimp only)))
  k_with "go2" => (repeat' ((fail_if_success (with_reducible show Exists _));(fail_if_success (with_reducible show _ ∧ Keeps _ _));(fail_if_success (with_reducible show wpAny _ _ (eval (PySem.Expr.ListComp _ _ _ _) _) _ _ _));(fail_if_success (with_reducible show wpAny _ _ (exec (Stmt.Assign _ (PySem.Expr.ListComp _ _ _ _) _) _) _ _ _));(fail_if_success (with_reducible show wpAny _ _ (exec (Stmt.For _ _ _ _ _) _) _ _ _));first | (k_unfold;(try dsimp only)) | walk1 | (dsimp only;walk1) | fail "no step"))
  k_with "call ref" => ((k_here;k_dflt (refine' form_ok ?R_r26 ?g_r26 ?z_r26 ?sm_r26 _ _ _ _ _ _ _ _ _ _ ?h1_r26 ?h2_r26 ?h3_r26 ?h4_r26 ?h5_r26 ?h6_r26 ?B_r26 ?F_r26 ?X_r26 ?T_r26 ?_;(case R_r26 => walk_at "reads");(case g_r26 => assumption);(case z_r26 => assumption);(case sm_r26 => assumption);(case h1_r26 => assumption);(case h2_r26 => first | exact Around.frames_deeper (Below.stack (by assumption)) | assumption);(case h3_r26 => exact rfl);(case h4_r26 => exact rfl);(case h5_r26 => walk_at "room");(case h6_r26 => walk_at "units");(case B_r26 => assumption);(case F_r26 => assumption);(case X_r26 => assumption);(case T_r26 => assumption));intro qv9 qh' qtk' qdr' qkK;(try dsimp only at qkK);(rename News _ _ _ _ => qN9);(have qN' := Keep.news qkK qN9);(rename Fr _ _ _ _ => qF9);(have qF9k := fun (_ : True) => Keep.fr qkK qF9);intro qhF' qhP';(have qF' := qF9k True.intro);clear qF9k;(try subst qhP');(try dsimp only)))
  k_with "call ref" => ((k_here;k_dflt (refine' parts_ok ?R_r27 ?t_r27 ?l_r27 ?o_r27 _ _ _ _ _ _ _ _ _ _ ?h1_r27 ?h2_r27 ?h3_r27 ?h4_r27 ?h5_r27 ?h6_r27 ?B_r27 ?F_r27 ?X_r27 ?T_r27 ?_;(case R_r27 => walk_at "reads");(case t_r27 => assumption);(case l_r27 => assumption);(case o_r27 => assumption);(case h1_r27 => assumption);(case h2_r27 => first | exact Around.frames_deeper (Below.stack (by assumption)) | assumption);(case h3_r27 => exact rfl);(case h4_r27 => exact rfl);(case h5_r27 => walk_at "room");(case h6_r27 => walk_at "units");(case B_r27 => assumption);(case F_r27 => assumption);(case X_r27 => assumption);(case T_r27 => assumption));intro qv9 qh' qtk' qkK;(try dsimp only at qkK);(rename News _ _ _ _ => qN9);(have qN' := Keep.news qkK qN9);(rename Fr _ _ _ _ => qF9);(have qF9k := fun (_ : True) => Keep.fr qkK qF9);intro qhF' qhP';(have qF' := qF9k True.intro);clear qF9k;(obtain ⟨qT9, qe9, qo9, qn9⟩ := qhP';subst qe9);(try dsimp only at qn9);(have qN'' := newsAdd qF9 qN' qo9 qn9);(have qne9 := newsNe qN9 qn9);clear qN';(simp only [List.forall_mem_cons, List.not_mem_nil, false_implies, implies_true, and_true] at qne9);(try dsimp only)))
  k_with "assign Tuple" => ((k_here;k_dflt (refine' asgPair ?F_r28 ?N_r28 ?hh_r28 ?ht_r28 ?_;(case F_r28 => k_asm);(case N_r28 => k_asm);(case hh_r28 => assumption);(case ht_r28 => kun_tup);k_whole);intro qh' qF' qN' qkK;(try dsimp only)))
  k_with "go3" => (repeat' ((fail_if_success (with_reducible show Exists _));(fail_if_success (with_reducible show _ ∧ Keeps _ _));(fail_if_success (with_reducible show wpAny _ _ (exec (Stmt.Assign _ (PySem.Expr.ListComp _ _ _ _) _) _) _ _ _));(fail_if_success (with_reducible show wpAny _ _ (exec (Stmt.For _ _ _ _ _) _) _ _ _));first | (k_unfold;(try dsimp only)) | walk1 | (dsimp only;walk1) | fail "no step"))
  k_with "call type:enumerate" => ((k_here;(with_reducible show wpAny _ _ (call (Value.type "enumerate") [Value.ref _]) _ _ _);k_dflt (refine' enumT ?F_r30 ?N_r30 ?m_r30 ?_;(case F_r30 => k_asm);(case N_r30 => k_asm);(case m_r30 => k_mem));intro qe qh' qF' qN' qkE;(try dsimp only)))
  k_with "go4" => (repeat' ((fail_if_success (with_reducible show Exists _));(fail_if_success (with_reducible show _ ∧ Keeps _ _));(fail_if_success (with_reducible show wpAny _ _ (eval (PySem.Expr.ListComp _ _ _ _) _) _ _ _));(fail_if_success (with_reducible show wpAny _ _ (exec (Stmt.Assign _ (PySem.Expr.ListComp _ _ _ _) _) _) _ _ _));first | (k_unfold;(try dsimp only)) | walk1 | (dsimp only;walk1) | fail "no step"))
  k_with "call ref" => ((k_here;k_dflt (refine' order_ok ?R_r32 ?g_r32 ?z_r32 ?sm_r32 ?hc_r32 _ _ _ _ _ _ _ _ _ _ ?h1_r32 ?h2_r32 ?h3_r32 ?h4_r32 ?h5_r32 ?h6_r32 ?B_r32 ?F_r32 ?X_r32 ?T_r32 ?_;(case R_r32 => walk_at "reads");(case g_r32 => assumption);(case z_r32 => assumption);(case sm_r32 => assumption);(case hc_r32 => assumption);(case h1_r32 => assumption);(case h2_r32 => first | exact Around.frames_deeper (Below.stack (by assumption)) | assumption);(case h3_r32 => exact rfl);(case h4_r32 => exact rfl);(case h5_r32 => walk_at "room");(case h6_r32 => walk_at "units");(case B_r32 => assumption);(case F_r32 => assumption);(case X_r32 => assumption);(case T_r32 => assumption));intro qv9 qh' qtk' qdr' qkK;(try dsimp only at qkK);(rename News _ _ _ _ => qN9);(have qN' := Keep.news qkK qN9);(rename Fr _ _ _ _ => qF9);(have qF9k := fun (_ : True) => Keep.fr qkK qF9);intro qhF' qhP';(have qF' := qF9k True.intro);clear qF9k;(obtain ⟨qD9, qT9, qP9, qk9, qe9, qoD9, qoT9, qoP9, qnD9, qnT9, qnP9⟩ := qhP';subst qe9);(try dsimp only at qnD9 qnT9 qnP9);(have qNp := newsAdd qF9 qN' qoP9 qnP9);(have qNt := newsAdd qF9 qNp qoT9 qnT9);(have qNd := newsAdd qF9 qNt qoD9 qnD9);(have qneP := newsNe qN9 qnP9);(have qneT := newsNe qN9 qnT9);(have qneD := newsNe qN9 qnD9);(have qnePT := ne3 qoD9 qoT9 qoP9);clear qN' qNp qNt;(simp only [List.forall_mem_cons, List.not_mem_nil, false_implies, implies_true, and_true] at qneP qneT qneD);(try dsimp only)))
  k_with "call ref" => ((k_here;k_dflt (refine' want_raises ?R_r33 ?g_r33 ?z_r33 ?sm_r33 ?form_r33 ?P_r33 _ _ _ _ _ _ _ _ _ _ ?h1_r33 ?h2_r33 ?h3_r33 ?h4_r33 ?h5_r33 ?h6_r33 ?B_r33 ?F_r33 ?X_r33 ?T_r33 ?KD_r33 ?_;(case R_r33 => walk_at "reads");(case g_r33 => assumption);(case z_r33 => assumption);(case sm_r33 => assumption);(case form_r33 => assumption);(case P_r33 => exact ⟨_, News.get (by k_asm) (by k_mem), rfl, _, rfl⟩);(case h1_r33 => assumption);(case h2_r33 => first | exact Around.frames_deeper (Below.stack (by assumption)) | assumption);(case h3_r33 => exact rfl);(case h4_r33 => exact rfl);(case h5_r33 => walk_at "room");(case h6_r33 => walk_at "units");(case B_r33 => assumption);(case F_r33 => assumption);(case X_r33 => assumption);(case T_r33 => assumption);(case KD_r33 => exact ktsKeep (by assumption) (Fr.keep (by k_asm))));intro qe9 qh' qtk' qdr' qth9;(try dsimp only at qth9);(try dsimp only)))
  k_with "k_ne" => ((refine neN ?_;(try dsimp only);first | assumption | exact Ne.symm (by assumption) | exact Nat.ne_of_lt (by assumption) | exact Nat.ne_of_gt (by assumption) | exact (And.left (by assumption)) | exact (Ne.symm (And.left (by assumption))) | exact (Nat.ne_of_lt (And.left (by assumption))) | exact (Nat.ne_of_gt (And.left (by assumption))) | exact (And.left (And.right (by assumption))) | exact (Ne.symm (And.left (And.right (by assumption)))) | exact (Nat.ne_of_lt (And.left (And.right (by assumption)))) | exact (Nat.ne_of_gt (And.left (And.right (by assumption)))) | exact (And.right (by assumption)) | exact (Ne.symm (And.right (by assumption))) | exact (Nat.ne_of_lt (And.right (by assumption))) | exact (Nat.ne_of_gt (And.right (by assumption))) | exact (And.left (And.right (And.right (by assumption)))) | exact (Ne.symm (And.left (And.right (And.right (by assumption))))) | exact (Nat.ne_of_lt (And.left (And.right (And.right (by assumption))))) | exact (Nat.ne_of_gt (And.left (And.right (And.right (by assumption))))) | exact (And.right (And.right (by assumption))) | exact (Ne.symm (And.right (And.right (by assumption)))) | exact (Nat.ne_of_lt (And.right (And.right (by assumption)))) | exact (Nat.ne_of_gt (And.right (And.right (by assumption)))) | exact (And.left (And.right (And.right (And.right (by assumption))))) | exact (Ne.symm (And.left (And.right (And.right (And.right (by assumption)))))) | exact (Nat.ne_of_lt (And.left (And.right (And.right (And.right (by assumption)))))) | exact (Nat.ne_of_gt (And.left (And.right (And.right (And.right (by assumption)))))) | exact (And.right (And.right (And.right (by assumption)))) | exact (Ne.symm (And.right (And.right (And.right (by assumption))))) | exact (Nat.ne_of_lt (And.right (And.right (And.right (by assumption))))) | exact (Nat.ne_of_gt (And.right (And.right (And.right (by assumption))))) | exact (And.left (And.right (And.right (And.right (And.right (by assumption)))))) | exact (Ne.symm (And.left (And.right (And.right (And.right (And.right (by assumption))))))) | exact (Nat.ne_of_lt (And.left (And.right (And.right (And.right (And.right (by assumption))))))) | exact (Nat.ne_of_gt (And.left (And.right (And.right (And.right (And.right (by assumption))))))) | exact (And.right (And.right (And.right (And.right (by assumption))))) | exact (Ne.symm (And.right (And.right (And.right (And.right (by assumption)))))) | exact (Nat.ne_of_lt (And.right (And.right (And.right (And.right (by assumption)))))) | exact (Nat.ne_of_gt (And.right (And.right (And.right (And.right (by assumption)))))) | exact (And.left (And.right (And.right (And.right (And.right (And.right (by assumption))))))) | exact (Ne.symm (And.left (And.right (And.right (And.right (And.right (And.right (by assumption)))))))) | exact (Nat.ne_of_lt (And.left (And.right (And.right (And.right (And.right (And.right (by assumption)))))))) | exact (Nat.ne_of_gt (And.left (And.right (And.right (And.right (And.right (And.right (by assumption)))))))) | exact (And.right (And.right (And.right (And.right (And.right (by assumption)))))) | exact (Ne.symm (And.right (And.right (And.right (And.right (And.right (by assumption))))))) | exact (Nat.ne_of_lt (And.right (And.right (And.right (And.right (And.right (by assumption))))))) | exact (Nat.ne_of_gt (And.right (And.right (And.right (And.right (And.right (by assumption))))))) | exact (And.left (And.right (And.right (And.right (And.right (And.right (And.right (by assumption)))))))) | exact (Ne.symm (And.left (And.right (And.right (And.right (And.right (And.right (And.right (by assumption))))))))) | exact (Nat.ne_of_lt (And.left (And.right (And.right (And.right (And.right (And.right (And.right (by assumption))))))))) | exact (Nat.ne_of_gt (And.left (And.right (And.right (And.right (And.right (And.right (And.right (by assumption))))))))) | exact (And.right (And.right (And.right (And.right (And.right (And.right (by assumption))))))) | exact (Ne.symm (And.right (And.right (And.right (And.right (And.right (And.right (by assumption)))))))) | exact (Nat.ne_of_lt (And.right (And.right (And.right (And.right (And.right (And.right (by assumption)))))))) | exact (Nat.ne_of_gt (And.right (And.right (And.right (And.right (And.right (And.right (by assumption)))))))) | omega))
  k_with "go5" => (repeat' ((fail_if_success (with_reducible show Exists _));(fail_if_success (with_reducible show _ ∧ _ ∧ _));(fail_if_success (with_reducible show _ ∧ Keeps _ _));(fail_if_success (with_reducible show wpAny _ _ (eval (PySem.Expr.ListComp _ _ _ _) _) _ _ _));(fail_if_success (with_reducible show wpAny _ _ (exec (Stmt.Assign _ (PySem.Expr.ListComp _ _ _ _) _) _) _ _ _));first | (k_unfold;(try dsimp only)) | walk1 | (dsimp only;walk1) | fail "no step"))
  k_with "k_ne" => ((refine neN ?_;(try dsimp only);first | assumption | exact Ne.symm (by assumption)))
  k_with "call ref" => ((k_here;k_dflt (refine' want_ok ?R_r37 ?g_r37 ?z_r37 ?sm_r37 ?form_r37 _ _ _ _ _ _ _ _ _ _ ?h1_r37 ?h2_r37 ?h3_r37 ?h4_r37 ?h5_r37 ?h6_r37 ?B_r37 ?F_r37 ?X_r37 ?T_r37 ?_;(case R_r37 => walk_at "reads");(case g_r37 => assumption);(case z_r37 => assumption);(case sm_r37 => assumption);(case form_r37 => assumption);(case h1_r37 => assumption);(case h2_r37 => first | exact Around.frames_deeper (Below.stack (by assumption)) | assumption);(case h3_r37 => exact rfl);(case h4_r37 => exact rfl);(case h5_r37 => walk_at "room");(case h6_r37 => walk_at "units");(case B_r37 => assumption);(case F_r37 => assumption);(case X_r37 => assumption);(case T_r37 => assumption));intro qv9 qh' qtk' qdr' qkK;(try dsimp only at qkK);(rename News _ _ _ _ => qN9);(have qN' := Keep.news qkK qN9);(rename Fr _ _ _ _ => qF9);(have qF9k := fun (_ : True) => Keep.fr qkK qF9);intro qhF' qhP';(have qF' := qF9k True.intro);clear qF9k;(try subst qhP');(try dsimp only)))
  k_with "subscriptTail" => ((k_here;(with_reducible show wpAny _ _ (subscriptTail _ _ (Value.ref _) (Value.ref _)) _ _ _);k_dflt (refine' keyGet ?s1_r38 ?s2_r38 ?s3_r38 ?s4_r38 ?s5_r38 ?s6_r38 ?_ ?s7_r38 ?s8_r38;(case s1_r38 => k_asm);(case s3_r38 => assumption);(case s2_r38 => k_mem);(case s4_r38 => exact ⟨_, News.get (by k_asm) (by k_mem), rfl, _, rfl⟩); (case s5_r38 => exact ⟨_, News.get (by k_asm) (by k_mem), rfl, _, rfl⟩);(case s6_r38 => walk_at "units");(case s7_r38 => with_unfolding_all rfl);(case s8_r38 => intro _;with_unfolding_all rfl));intro qtk';(try dsimp only)))
  trivial
namespace tidied_ok_n
noncomputable def Wk (w : World) (mean : ExcName → Option Value) (mg : Str → Option Value) (mb : Str → Option Value) (s : Shared) (A : Around) (base : Heap) (outer : List Env) (L' : Addr) (h₁ : Heap) : Prop := ∀ (v : Value) (d : PyData) (R : Reads s.heap v d []) (hg : good 51 d) (hz : sz d ≤ 900) (hsmall : (kids (kid d 2)).all pairOk = true → (kids (kid d 2)).length ≤ 2) (hform : formB d = true) (hb : ∃ x, kid d 0 = .str x ∧ bareKind x), EntC (PostF s (fun _ r => r = v)) w mean mg mb s A base outer L' h₁ 10 800 [(Str.ofString "paper", v)] (envAtC 133 L') (stAt 133)
theorem inhab : Nonempty ((World) × (ExcName → Option Value) × (Str → Option Value) × (Str → Option Value) × (Shared) × (Around) × (Heap) × (List Env) × (Addr) × (Heap)) := ⟨((aWorld 1), (fun _ => none), (fun _ => none), (fun _ => none), ({}), ({}), ({}), ([]), (0), ({}))⟩
noncomputable def cc : (World) × (ExcName → Option Value) × (Str → Option Value) × (Str → Option Value) × (Shared) × (Around) × (Heap) × (List Env) × (Addr) × (Heap) := pickA inhab fun c => Wk c.1 c.2.1 c.2.2.1 c.2.2.2.1 c.2.2.2.2.1 c.2.2.2.2.2.1 c.2.2.2.2.2.2.1 c.2.2.2.2.2.2.2.1 c.2.2.2.2.2.2.2.2.1 c.2.2.2.2.2.2.2.2.2
@[irreducible] noncomputable def w : World := cc.1
@[irreducible] noncomputable def mean : ExcName → Option Value := cc.2.1
@[irreducible] noncomputable def mg : Str → Option Value := cc.2.2.1
@[irreducible] noncomputable def mb : Str → Option Value := cc.2.2.2.1
@[irreducible] noncomputable def s : Shared := cc.2.2.2.2.1
@[irreducible] noncomputable def A : Around := cc.2.2.2.2.2.1
@[irreducible] noncomputable def base : Heap := cc.2.2.2.2.2.2.1
@[irreducible] noncomputable def outer : List Env := cc.2.2.2.2.2.2.2.1
@[irreducible] noncomputable def L' : Addr := cc.2.2.2.2.2.2.2.2.1
@[irreducible] noncomputable def h₁ : Heap := cc.2.2.2.2.2.2.2.2.2
theorem here : Wk w mean mg mb s A base outer L' h₁ := by
  (have hFill : ∀ P : Params, (Mine.hd.heap_39 P = Mine.hd.heap_39 P) ∧ PySem.Challenge.rw_rg0113_01 = PySem.Challenge.rw_rg0113_01 := (by k_fill; exact fillK); clear hFill)
  unfold Wk
  intro v d R hg hz hsmall hform hb
  have hc : formB d = true → ∃ x, kid d 0 = .str x ∧ bareKind x := fun _ => hb
  have ht : isTup d = true := form_tup hform
  have hl : 2 ≤ (kids d).length := form_len hform
  refine lit_atC (f := 133) (L := L') (p := EntC (PostF s (fun _ r => r = v)) w mean mg mb s A base outer L' h₁ 10 800 [(Str.ofString "paper", v)]) (by k_is) ?_
  intro tk₁ cells hh hd hu F1 B1 X1 T1 N1 Y1
  (try dsimp only)
  k_cells Y1
  walk_at "go4"; all_goals (try k_data)
  all_goals (try dsimp only)
  k_dflt (refine' for1 ?hh ?hs ?hit; (case hh => assumption); (case hs => intro _; with_unfolding_all rfl))
  walk_at "go4"; all_goals (try k_data)
  all_goals (try dsimp only)
  refine ⟨_, _, _, rfl, News.get (by assumption) (by k_mem), ?_⟩
  intro I hI oI kI nI gI
  (try dsimp only at kI nI)
  rename News _ _ _ _ => N9
  rename Fr _ _ _ _ => F9
  have FI := Keep.fr kI F9
  have NI := newsAdd F9 (Keep.news kI N9) gI nI
  have neI := newsNe N9 nI
  simp only [List.forall_mem_cons, List.not_mem_nil, false_implies, implies_true, and_true] at neI
  clear N9 F9
  (try dsimp only)
  walk_at "go4"; all_goals (try k_data)
  all_goals (try dsimp only)
  k_dflt (refine' compNoneA (g := s.heap) ?n1 ?n2 ?n3 ?n4 ?n5 ?n6 ?n7 ?n8 ?n9 ?n10 ?n11 ?n12; (case n1 => assumption); (case n2 => with_unfolding_all rfl); (case n3 => exact rfl); (case n4 => decide); (case n5 => exact rfl); (case n6 => decide); (case n7 => decide); (case n8 => intro _; with_unfolding_all rfl); (case n9 => with_unfolding_all rfl); (case n10 => with_unfolding_all rfl); (case n11 => exact rfl))
  walk_at "go4"; all_goals (try k_data)
  all_goals (try dsimp only)
  refine ⟨_, _, _, _, _, _, rfl, by assumption, by assumption, by assumption, ?_⟩
  intro D9 h' tk' k9 F' N' ne'
  simp only [List.forall_mem_cons, List.not_mem_nil, false_implies, implies_true, and_true] at ne'
  (try dsimp only)
  obtain ⟨x, hx, hbk⟩ := hb
  have h1 : (x == Str.ofString "turn") = false := by rcases hbk with rfl | rfl | rfl <;> decide
  have h2 : (x == Str.ofString "join") = false := by rcases hbk with rfl | rfl | rfl <;> decide
  have h3 : (x == Str.ofString "under") = false := by rcases hbk with rfl | rfl | rfl <;> decide
  · walk_at "go4"; all_goals (try k_data)
    all_goals (try dsimp only)
    (repeat (rename _ ∧ _ => q9; obtain ⟨_, _⟩ := q9))
    refine' keySet ?s1 ?s2 ?s3 ?s4 ?s5 ?s6 ?s7
    case s1 => k_asm
    case s2 => k_asm
    case s3 => intro o9; k_upd
    case s4 => assumption
    case s5 => exact ⟨_, News.get (by k_asm) (by k_mem), rfl, _, rfl⟩
    case s6 => walk_at "units"
    case s7 =>
      intro oK h' tk' F' N' K1
      (try dsimp only)
      walk_at "go5"; all_goals (try k_data)
      all_goals (try dsimp only)
      refine ⟨rfl, News.get (by assumption) (by k_mem), News.get (by assumption) (by k_mem), ?_⟩
      intro h9 k9
      rename News _ _ _ _ => N8
      rename Fr _ _ _ _ => F8
      have F' := frBut F8 N8 (by k_mem) k9
      have N' := newsBut 3 N8 k9 (by dsimp only [List.drop]; k_all)
      dsimp only [List.drop] at N'
      clear F8 N8
      walk_at "go5"; all_goals (try k_data)
      all_goals (try dsimp only)
      exact ⟨_, _, _, _, rfl, Fr.keep (by assumption), rfl, rfl⟩
theorem all : ∀ c : (World) × (ExcName → Option Value) × (Str → Option Value) × (Str → Option Value) × (Shared) × (Around) × (Heap) × (List Env) × (Addr) × (Heap), Wk c.1 c.2.1 c.2.2.1 c.2.2.2.1 c.2.2.2.2.1 c.2.2.2.2.2.1 c.2.2.2.2.2.2.1 c.2.2.2.2.2.2.2.1 c.2.2.2.2.2.2.2.2.1 c.2.2.2.2.2.2.2.2.2 := pickA_all (h := inhab) (p := fun c => Wk c.1 c.2.1 c.2.2.1 c.2.2.2.1 c.2.2.2.2.1 c.2.2.2.2.2.1 c.2.2.2.2.2.2.1 c.2.2.2.2.2.2.2.1 c.2.2.2.2.2.2.2.2.1 c.2.2.2.2.2.2.2.2.2) (by with_unfolding_all exact @here)
end tidied_ok_n
theorem tidied_ok {w : World} {mean : ExcName → Option Value} {mg mb : Str → Option Value} {s : Shared} {v : Value} {d : PyData} (R : Reads s.heap v d []) (hg : good 51 d) (hz : sz d ≤ 900) (hsmall : (kids (kid d 2)).all pairOk = true → (kids (kid d 2)).length ≤ 2) (hform : formB d = true) (hb : ∃ x, kid d 0 = .str x ∧ bareKind x) :
    Pure w mean mg mb 133 [v] 10 800 s (fun _ r => r = v) := by
  (have hFill : ∀ P : Params, (Mine.hd.heap_39 P = Mine.hd.heap_39 P) ∧ PySem.Challenge.rw_rg0113_01 = PySem.Challenge.rw_rg0113_01 := (by k_fill; exact fillK); clear hFill)
  k_dflt (refine' pure_enterC [(Str.ofString "paper", v)] ?k6 ?k7 ?k9 ?kB ?kD (by decide) ?c2 ?c3 ?c4 ?_; (case k6 => k_is); (case k7 => k_is); (case k9 => exact BindsTo.of_eq rfl); (case kB => exact rfl); (case kD => decide +kernel); (case c2 => exact rfl); (case c3 => exact rfl); (case c4 => exact rfl))
  intro A base outer L' h₁ tk₁ cells hh hd hu F1 B1 X1 T1 N1 Y1
  exact tidied_ok_n.all (w, mean, mg, mb, s, A, base, outer, L', h₁) v d R hg hz hsmall hform hb tk₁ cells hh hd hu F1 B1 X1 T1 N1 Y1
end
section
theorem reg_refused0 : True := by
  k_with_none
  k_with "go" => (repeat' ((fail_if_success (with_reducible show Exists _));(fail_if_success (with_reducible show _ ∧ Keeps _ _));(fail_if_success (with_reducible show wpAny _ _ (eval (PySem.Expr.ListComp _ _ _ _) _) _ _ _));(fail_if_success (with_reducible show wpAny _ _ (exec (Stmt.Assign _ (PySem.Expr.ListComp _ _ _ _) _) _) _ _ _));(fail_if_success (with_reducible show wpAny _ _ (exec (Stmt.While _ _ _ _) _) _ _ _));(fail_if_success (with_reducible show wpAny _ _ (exec (Stmt.For _ _ _ _ _) _) _ _ _));first | (k_unfold;(try dsimp only)) | walk1 | (dsimp only;walk1) | fail "no step"))
  k_with "reads" => (first | with_reducible assumption | exact Reads.keeps (Fr.keep (by k_asm)) (by with_reducible assumption) | (refine' readsNew1 ?rF_r1 ?rN_r1 ?rM_r1 ?rR_r1;(case rF_r1 => k_asm);(case rN_r1 => k_asm);(case rM_r1 => k_mem);(case rR_r1 => with_reducible assumption)))
  k_with "call builtin:len" => ((k_here;(with_reducible show wpAny _ _ (call _ [Value.ref _]) _ _ _);k_dflt (refine' lenLst ?N_r2 ?m_r2 ?z_r2 ?_;(case N_r2 => k_asm);(case m_r2 => k_mem);(case z_r2 => first | assumption | omega);k_whole);intro _ _))
  k_with "call builtin:len" => ((k_here;k_dflt (refine' lenTup ?R_r3 ?t_r3 ?z_r3 ?_;(case R_r3 => walk_at "reads");(case t_r3 => assumption);(case z_r3 => first | assumption | omega);k_whole);intro _ _))
  k_with "call builtin:list.pop" => ((k_here;(with_reducible show wpAny _ _ (call _ [Value.ref _]) _ _ _);k_dflt (refine' popLst ?F_r4 ?N_r4 ?U_r4 ?z_r4 ?_;(case F_r4 => k_asm);(case N_r4 => k_asm);(case U_r4 => k_upd);(case z_r4 => first | assumption | omega);k_whole);intro qh' qF' qN'))
  k_with "call builtin:isinstance" => ((k_here;(with_reducible show wpAny _ _ (call _ [_, Value.type "tuple"]) _ _ _);k_dflt (refine' isiTup ?R_r5 ?_ ?_;(case R_r5 => walk_at "reads"));all_goals (intro qhI;(try intro qtkI);(try dsimp only))))
  k_with "call builtin:isinstance" => ((k_here;(with_reducible show wpAny _ _ (call _ [_, Value.type "str"]) _ _ _);k_dflt (refine' isiStr ?R_r6 ?_ ?_;(case R_r6 => walk_at "reads"));all_goals (first | (intro qxI qtI qeI qhI qlI;(try subst qeI);(try dsimp only)) | (intro qhI qtkI;(try dsimp only)))))
  k_with "subscriptTail" => ((k_here;(with_reducible show wpAny _ _ (subscriptTail _ _ _ (Value.int 0 _)) _ _ _);k_dflt (refine' itemB0 ?F_r7 ?R_r7 ?t_r7 ?k_r7 ?_ ?s_r7;(case F_r7 => k_asm);(case R_r7 => with_reducible assumption);(case t_r7 => assumption);(case k_r7 => omega);(case s_r7 => intro _;with_unfolding_all rfl);k_whole);intro qvI qrI;(try dsimp only at qrI);(try (obtain ⟨qtI, qeI⟩ := reads_strE qrI (by with_reducible assumption);subst qeI));(try dsimp only)))
  k_with "subscriptTail" => ((k_here;(with_reducible show wpAny _ _ (subscriptTail _ _ _ (Value.int 1 _)) _ _ _);k_dflt (refine' itemB1 ?F_r8 ?R_r8 ?t_r8 ?k_r8 ?_ ?s_r8;(case F_r8 => k_asm);(case R_r8 => with_reducible assumption);(case t_r8 => assumption);(case k_r8 => omega);(case s_r8 => intro _;with_unfolding_all rfl);k_whole);intro qvI qrI;(try dsimp only at qrI);(try (obtain ⟨qtI, qeI⟩ := reads_strE qrI (by with_reducible assumption);subst qeI));(try dsimp only)))
  k_with "subscriptTail" => ((k_here;(with_reducible show wpAny _ _ (subscriptTail _ _ _ (Value.int 2 _)) _ _ _);k_dflt (refine' itemB2 ?F_r9 ?R_r9 ?t_r9 ?k_r9 ?_ ?s_r9;(case F_r9 => k_asm);(case R_r9 => with_reducible assumption);(case t_r9 => assumption);(case k_r9 => omega);(case s_r9 => intro _;with_unfolding_all rfl);k_whole);intro qvI qrI;(try dsimp only at qrI);(try (obtain ⟨qtI, qeI⟩ := reads_strE qrI (by with_reducible assumption);subst qeI));(try dsimp only)))
  k_with "subscriptTail" => ((k_here;(with_reducible show wpAny _ _ (subscriptTail _ (PySem.Expr.Slice none (some _) none _) (Value.str _ _) _) _ _ _);(k_dflt (refine strCut1 (s := ⟨_, _, _, _, _⟩) (by assumption) (by assumption) ?hsz_r10 ?_));(case hsz_r10 => (rw [sizeLine_eq];omega));intro qh' qt' qk' qF' qN' qkK;(try dsimp only at qkK);(try dsimp only)))
  k_with "subscriptTail Name Slice str ref" => ((k_here;(with_reducible show wpAny _ _ (subscriptTail _ (PySem.Expr.Slice none (some _) none _) (Value.str _ _) _) _ _ _);(k_dflt (refine strCut1 (s := ⟨_, _, _, _, _⟩) (by assumption) (by assumption) ?hsz_r11 ?_));(case hsz_r11 => (rw [sizeLine_eq];omega));intro qh' qt' qk' qF' qN' qkK;(try dsimp only at qkK);(try dsimp only)))
  k_with "subscriptTail" => ((k_here;(with_reducible show wpAny _ _ (subscriptTail _ (PySem.Expr.Slice (some _) none none _) _ (Value.ref _)) _ _ _);(k_dflt (refine' sliceTup1 (s := ⟨_, _, _, _, _⟩) ?F_r12 ?N_r12 ?R_r12 ?t_r12 ?k_r12 ?z_r12 ?_ ?hs_r12 ?hg_r12;(case F_r12 => k_asm);(case N_r12 => k_asm);(case R_r12 => with_reducible assumption);(case t_r12 => assumption);(case k_r12 => omega);(case z_r12 => omega);(case hs_r12 => intro _;with_unfolding_all rfl);(case hg_r12 => intro _ _;with_unfolding_all rfl)));intro qD' qh' qvs' qF' qN' qR' ql1 qe1;(try k_lt ql1);(try dsimp only)))
  k_with "call builtin:list.extend" => ((k_here;(k_dflt (refine' extLst ?F_r13 ?N_r13 ?b_r13 ?U_r13 ?z_r13 ?_;(case F_r13 => k_asm);(case N_r13 => k_asm);(case b_r13 => k_mem);(case U_r13 => intro qk9;k_upd);(case z_r13 => omega)));intro qh' qk' qF' qN';(try dsimp only)))
  k_with "good" => (first | exact good_shaped (by assumption) (by omega) | exact good_shaped (good_filter (by assumption)) (by omega))
  k_with "units" => (first | exact addLt (by assumption) (by decide) | exact addLt1 (c := 3) (by assumption) (by decide) | exact addLt1 (c := 1) (by assumption) (by decide) | exact addLt2 (c := 3) (d := 1) (by assumption) (by decide) | exact addLt2 (c := 3) (d := 3) (by assumption) (by decide) | omega | ((try simp only [Around.deeper_units, units_in1]);omega))
  k_with "compareOp NotEq ref ref" => ((k_here;(with_reducible show wpAny _ _ (compareOp CmpOp.NotEq (Value.ref _) (Value.ref _)) _ _ _);k_dflt (refine' neNil ?F_r16 ?N_r16 ?E_r16 ?RA_r16 ?D_r16 ?a_r16 ?u_r16 ?_;(case F_r16 => k_asm);(case N_r16 => k_asm);(case E_r16 => k_mem);(case D_r16 => k_mem);(case RA_r16 => with_reducible assumption);(case a_r16 => walk_at "good");(case u_r16 => walk_at "units");k_whole);(try dsimp only)))
  k_with "compareOp Eq ref ref" => ((k_here;(with_reducible show wpAny _ _ (compareOp CmpOp.Eq (Value.ref _) (Value.ref _)) _ _ _);k_dflt (refine' eqNil ?F_r17 ?N_r17 ?E_r17 ?RA_r17 ?D_r17 ?a_r17 ?u_r17 ?_;(case F_r17 => k_asm);(case N_r17 => k_asm);(case E_r17 => k_mem);(case D_r17 => k_mem);(case RA_r17 => with_reducible assumption);(case a_r17 => walk_at "good");(case u_r17 => walk_at "units");k_whole);(try dsimp only)))
  k_with "call type:set" => ((k_here;(with_reducible show wpAny _ _ (call (Value.type "set") [Value.ref _]) _ _ _);k_dflt (refine' setStrs ?hh_r18 ?F_r18 ?N_r18 ?D_r18 ?S_r18 ?z_r18 ?_;(case hh_r18 => assumption);(case F_r18 => k_asm);(case N_r18 => k_asm);(case D_r18 => k_mem);(case S_r18 => with_reducible assumption);(case z_r18 => with_reducible assumption));intro qD' qh' qo' qtk' qF' qN' ql1 qsO;(try k_lt ql1);(try dsimp only)))
  k_with "call builtin:sorted" => ((k_here;(with_reducible show wpAny _ _ (call (Value.builtin "sorted") [Value.ref _]) _ _ _);k_dflt (refine' sortedSet ?hh_r19 ?F_r19 ?N_r19 ?D_r19 ?S_r19 ?z_r19 ?_;(case hh_r19 => assumption);(case F_r19 => k_asm);(case N_r19 => k_asm);(case D_r19 => k_mem);(case S_r19 => with_reducible assumption);(case z_r19 => with_reducible assumption));intro qD' qh' qtk' qdr' qvs' qss' qk' qF' qN' ql1 qsA qpA qsS;(try k_lt ql1);(try dsimp only)))
  k_with "compareOp Eq ref ref" => ((k_here;(with_reducible show wpAny _ _ (compareOp CmpOp.Eq (Value.ref _) (Value.ref _)) _ _ _);k_dflt (refine' eqNames ?F_r20 ?N_r20 ?D_r20 ?E_r20 ?SD_r20 ?SE_r20 ?p_r20 ?s_r20 ?ok_r20 ?z_r20 ?u_r20 ?_;(case F_r20 => k_asm);(case N_r20 => k_asm);(case D_r20 => k_mem);(case E_r20 => k_mem);(case SD_r20 => with_reducible assumption);(case SE_r20 => with_reducible assumption);(case p_r20 => with_reducible assumption);(case s_r20 => with_reducible assumption);(case ok_r20 => with_reducible assumption);(case z_r20 => with_reducible assumption);(case u_r20 => walk_at "units");k_whole);(try dsimp only)))
  k_with "room" => (first | exact addLt (by assumption) (by decide) | exact addLt1 (c := 1) (by assumption) (by decide) | exact addLt2 (c := 1) (d := 1) (by assumption) (by decide) | omega | ((try simp only [depth_deeper, depth_in1]);omega))
  k_with "call ref" => ((k_here;k_dflt (refine' plain_ok ?R_r22 ?z_r22 _ _ _ _ _ _ _ _ _ _ ?h1_r22 ?h2_r22 ?h3_r22 ?h4_r22 ?h5_r22 ?h6_r22 ?B_r22 ?F_r22 ?X_r22 ?T_r22 ?_;(case R_r22 => walk_at "reads");(case z_r22 => first | assumption | omega | (simp only [sz, szAll];omega));(case h1_r22 => assumption);(case h2_r22 => first | exact Around.frames_deeper (Below.stack (by assumption)) | assumption);(case h3_r22 => exact rfl);(case h4_r22 => exact rfl);(case h5_r22 => walk_at "room");(case h6_r22 => walk_at "units");(case B_r22 => assumption);(case F_r22 => assumption);(case X_r22 => assumption);(case T_r22 => assumption));intro qv9 qh' qtk' qkK;(try dsimp only at qkK);(rename News _ _ _ _ => qN9);(have qN' := Keep.news qkK qN9);(rename Fr _ _ _ _ => qF9);(have qF9k := fun (_ : True) => Keep.fr qkK qF9);intro qhF' qhP';(have qF' := qF9k True.intro);clear qF9k;(try subst qhP');(try dsimp only)))
  k_with "call ref" => ((k_here;k_dflt (refine' places_ok ?R_r23 ?g_r23 ?sm_r23 _ _ _ _ _ _ _ _ _ _ ?h1_r23 ?h2_r23 ?h3_r23 ?h4_r23 ?h5_r23 ?h6_r23 ?B_r23 ?F_r23 ?X_r23 ?T_r23 ?_;(case R_r23 => walk_at "reads");(case g_r23 => first | assumption | exact good_kids (by assumption) _ (kid_mem (by omega)));(case sm_r23 => assumption);(case h1_r23 => assumption);(case h2_r23 => first | exact Around.frames_deeper (Below.stack (by assumption)) | assumption);(case h3_r23 => exact rfl);(case h4_r23 => exact rfl);(case h5_r23 => walk_at "room");(case h6_r23 => walk_at "units");(case B_r23 => assumption);(case F_r23 => assumption);(case X_r23 => assumption);(case T_r23 => assumption));intro qv9 qh' qtk' qdr' qkK;(try dsimp only at qkK);(rename News _ _ _ _ => qN9);(have qN' := Keep.news qkK qN9);(rename Fr _ _ _ _ => qF9);(have qF9k := fun (_ : True) => Keep.fr qkK qF9);intro qhF' qhP';(have qF' := qF9k True.intro);clear qF9k;(try subst qhP');(try dsimp only)))
  k_with "unpackItems ref" => ((k_here;k_dflt (refine' unpackTup ?F_r24 ?N_r24 ?hh_r24 ?ht_r24 ?hn_r24 ?_;(case F_r24 => k_asm);(case N_r24 => k_asm);(case hh_r24 => assumption);(case ht_r24 => kun_tup);(case hn_r24 => exact rfl);k_whole);intro qh' qF' qN' qkK;(try dsimp only)))
  k_with "go2" => (repeat' ((fail_if_success (with_reducible show Exists _));(fail_if_success (with_reducible show _ ∧ Keeps _ _));(fail_if_success (with_reducible show wpAny _ _ (eval (PySem.Expr.ListComp _ _ _ _) _) _ _ _));(fail_if_success (with_reducible show wpAny _ _ (exec (Stmt.Assign _ (PySem.Expr.ListComp _ _ _ _) _) _) _ _ _));(fail_if_success (with_reducible show wpAny _ _ (exec (Stmt.For _ _ _ _ _) _) _ _ _));first | (k_unfold;(try dsimp only)) | walk1 | (dsimp only;walk1) | fail "no step"))
  k_with "call ref" => ((k_here;k_dflt (refine' form_ok ?R_r26 ?g_r26 ?z_r26 ?sm_r26 _ _ _ _ _ _ _ _ _ _ ?h1_r26 ?h2_r26 ?h3_r26 ?h4_r26 ?h5_r26 ?h6_r26 ?B_r26 ?F_r26 ?X_r26 ?T_r26 ?_;(case R_r26 => walk_at "reads");(case g_r26 => assumption);(case z_r26 => assumption);(case sm_r26 => assumption);(case h1_r26 => assumption);(case h2_r26 => first | exact Around.frames_deeper (Below.stack (by assumption)) | assumption);(case h3_r26 => exact rfl);(case h4_r26 => exact rfl);(case h5_r26 => walk_at "room");(case h6_r26 => walk_at "units");(case B_r26 => assumption);(case F_r26 => assumption);(case X_r26 => assumption);(case T_r26 => assumption));intro qv9 qh' qtk' qdr' qkK;(try dsimp only at qkK);(rename News _ _ _ _ => qN9);(have qN' := Keep.news qkK qN9);(rename Fr _ _ _ _ => qF9);(have qF9k := fun (_ : True) => Keep.fr qkK qF9);intro qhF' qhP';(have qF' := qF9k True.intro);clear qF9k;(try subst qhP');(try dsimp only)))
  k_with "call ref" => ((k_here;k_dflt (refine' parts_ok ?R_r27 ?t_r27 ?l_r27 ?o_r27 _ _ _ _ _ _ _ _ _ _ ?h1_r27 ?h2_r27 ?h3_r27 ?h4_r27 ?h5_r27 ?h6_r27 ?B_r27 ?F_r27 ?X_r27 ?T_r27 ?_;(case R_r27 => walk_at "reads");(case t_r27 => assumption);(case l_r27 => assumption);(case o_r27 => assumption);(case h1_r27 => assumption);(case h2_r27 => first | exact Around.frames_deeper (Below.stack (by assumption)) | assumption);(case h3_r27 => exact rfl);(case h4_r27 => exact rfl);(case h5_r27 => walk_at "room");(case h6_r27 => walk_at "units");(case B_r27 => assumption);(case F_r27 => assumption);(case X_r27 => assumption);(case T_r27 => assumption));intro qv9 qh' qtk' qkK;(try dsimp only at qkK);(rename News _ _ _ _ => qN9);(have qN' := Keep.news qkK qN9);(rename Fr _ _ _ _ => qF9);(have qF9k := fun (_ : True) => Keep.fr qkK qF9);intro qhF' qhP';(have qF' := qF9k True.intro);clear qF9k;(obtain ⟨qT9, qe9, qo9, qn9⟩ := qhP';subst qe9);(try dsimp only at qn9);(have qN'' := newsAdd qF9 qN' qo9 qn9);(have qne9 := newsNe qN9 qn9);clear qN';(simp only [List.forall_mem_cons, List.not_mem_nil, false_implies, implies_true, and_true] at qne9);(try dsimp only)))
  k_with "assign Tuple" => ((k_here;k_dflt (refine' asgPair ?F_r28 ?N_r28 ?hh_r28 ?ht_r28 ?_;(case F_r28 => k_asm);(case N_r28 => k_asm);(case hh_r28 => assumption);(case ht_r28 => kun_tup);k_whole);intro qh' qF' qN' qkK;(try dsimp only)))
  k_with "go3" => (repeat' ((fail_if_success (with_reducible show Exists _));(fail_if_success (with_reducible show _ ∧ Keeps _ _));(fail_if_success (with_reducible show wpAny _ _ (exec (Stmt.Assign _ (PySem.Expr.ListComp _ _ _ _) _) _) _ _ _));(fail_if_success (with_reducible show wpAny _ _ (exec (Stmt.For _ _ _ _ _) _) _ _ _));first | (k_unfold;(try dsimp only)) | walk1 | (dsimp only;walk1) | fail "no step"))
  k_with "call type:enumerate" => ((k_here;(with_reducible show wpAny _ _ (call (Value.type "enumerate") [Value.ref _]) _ _ _);k_dflt (refine' enumT ?F_r30 ?N_r30 ?m_r30 ?_;(case F_r30 => k_asm);(case N_r30 => k_asm);(case m_r30 => k_mem));intro qe qh' qF' qN' qkE;(try dsimp only)))
  k_with "go4" => (repeat' ((fail_if_success (with_reducible show Exists _));(fail_if_success (with_reducible show _ ∧ Keeps _ _));(fail_if_success (with_reducible show wpAny _ _ (eval (PySem.Expr.ListComp _ _ _ _) _) _ _ _));(fail_if_success (with_reducible show wpAny _ _ (exec (Stmt.Assign _ (PySem.Expr.ListComp _ _ _ _) _) _) _ _ _));first | (k_unfold;(try dsimp only)) | walk1 | (dsimp only;walk1) | fail "no step"))
  k_with "call ref" => ((k_here;k_dflt (refine' order_ok ?R_r32 ?g_r32 ?z_r32 ?sm_r32 ?hc_r32 _ _ _ _ _ _ _ _ _ _ ?h1_r32 ?h2_r32 ?h3_r32 ?h4_r32 ?h5_r32 ?h6_r32 ?B_r32 ?F_r32 ?X_r32 ?T_r32 ?_;(case R_r32 => walk_at "reads");(case g_r32 => assumption);(case z_r32 => assumption);(case sm_r32 => assumption);(case hc_r32 => assumption);(case h1_r32 => assumption);(case h2_r32 => first | exact Around.frames_deeper (Below.stack (by assumption)) | assumption);(case h3_r32 => exact rfl);(case h4_r32 => exact rfl);(case h5_r32 => walk_at "room");(case h6_r32 => walk_at "units");(case B_r32 => assumption);(case F_r32 => assumption);(case X_r32 => assumption);(case T_r32 => assumption));intro qv9 qh' qtk' qdr' qkK;(try dsimp only at qkK);(rename News _ _ _ _ => qN9);(have qN' := Keep.news qkK qN9);(rename Fr _ _ _ _ => qF9);(have qF9k := fun (_ : True) => Keep.fr qkK qF9);intro qhF' qhP';(have qF' := qF9k True.intro);clear qF9k;(obtain ⟨qD9, qT9, qP9, qk9, qe9, qoD9, qoT9, qoP9, qnD9, qnT9, qnP9⟩ := qhP';subst qe9);(try dsimp only at qnD9 qnT9 qnP9);(have qNp := newsAdd qF9 qN' qoP9 qnP9);(have qNt := newsAdd qF9 qNp qoT9 qnT9);(have qNd := newsAdd qF9 qNt qoD9 qnD9);(have qneP := newsNe qN9 qnP9);(have qneT := newsNe qN9 qnT9);(have qneD := newsNe qN9 qnD9);(have qnePT := ne3 qoD9 qoT9 qoP9);clear qN' qNp qNt;(simp only [List.forall_mem_cons, List.not_mem_nil, false_implies, implies_true, and_true] at qneP qneT qneD);(try dsimp only)))
  k_with "call ref" => ((k_here;k_dflt (refine' want_raises ?R_r33 ?g_r33 ?z_r33 ?sm_r33 ?form_r33 ?P_r33 _ _ _ _ _ _ _ _ _ _ ?h1_r33 ?h2_r33 ?h3_r33 ?h4_r33 ?h5_r33 ?h6_r33 ?B_r33 ?F_r33 ?X_r33 ?T_r33 ?KD_r33 ?_;(case R_r33 => walk_at "reads");(case g_r33 => assumption);(case z_r33 => assumption);(case sm_r33 => assumption);(case form_r33 => assumption);(case P_r33 => exact ⟨_, News.get (by k_asm) (by k_mem), rfl, _, rfl⟩);(case h1_r33 => assumption);(case h2_r33 => first | exact Around.frames_deeper (Below.stack (by assumption)) | assumption);(case h3_r33 => exact rfl);(case h4_r33 => exact rfl);(case h5_r33 => walk_at "room");(case h6_r33 => walk_at "units");(case B_r33 => assumption);(case F_r33 => assumption);(case X_r33 => assumption);(case T_r33 => assumption);(case KD_r33 => exact ktsKeep (by assumption) (Fr.keep (by k_asm))));intro qe9 qh' qtk' qdr' qth9;(try dsimp only at qth9);(try dsimp only)))
  k_with "k_ne" => ((refine neN ?_;(try dsimp only);first | assumption | exact Ne.symm (by assumption) | exact Nat.ne_of_lt (by assumption) | exact Nat.ne_of_gt (by assumption) | exact (And.left (by assumption)) | exact (Ne.symm (And.left (by assumption))) | exact (Nat.ne_of_lt (And.left (by assumption))) | exact (Nat.ne_of_gt (And.left (by assumption))) | exact (And.left (And.right (by assumption))) | exact (Ne.symm (And.left (And.right (by assumption)))) | exact (Nat.ne_of_lt (And.left (And.right (by assumption)))) | exact (Nat.ne_of_gt (And.left (And.right (by assumption)))) | exact (And.right (by assumption)) | exact (Ne.symm (And.right (by assumption))) | exact (Nat.ne_of_lt (And.right (by assumption))) | exact (Nat.ne_of_gt (And.right (by assumption))) | exact (And.left (And.right (And.right (by assumption)))) | exact (Ne.symm (And.left (And.right (And.right (by assumption))))) | exact (Nat.ne_of_lt (And.left (And.right (And.right (by assumption))))) | exact (Nat.ne_of_gt (And.left (And.right (And.right (by assumption))))) | exact (And.right (And.right (by assumption))) | exact (Ne.symm (And.right (And.right (by assumption)))) | exact (Nat.ne_of_lt (And.right (And.right (by assumption)))) | exact (Nat.ne_of_gt (And.right (And.right (by assumption)))) | exact (And.left (And.right (And.right (And.right (by assumption))))) | exact (Ne.symm (And.left (And.right (And.right (And.right (by assumption)))))) | exact (Nat.ne_of_lt (And.left (And.right (And.right (And.right (by assumption)))))) | exact (Nat.ne_of_gt (And.left (And.right (And.right (And.right (by assumption)))))) | exact (And.right (And.right (And.right (by assumption)))) | exact (Ne.symm (And.right (And.right (And.right (by assumption))))) | exact (Nat.ne_of_lt (And.right (And.right (And.right (by assumption))))) | exact (Nat.ne_of_gt (And.right (And.right (And.right (by assumption))))) | exact (And.left (And.right (And.right (And.right (And.right (by assumption)))))) | exact (Ne.symm (And.left (And.right (And.right (And.right (And.right (by assumption))))))) | exact (Nat.ne_of_lt (And.left (And.right (And.right (And.right (And.right (by assumption))))))) | exact (Nat.ne_of_gt (And.left (And.right (And.right (And.right (And.right (by assumption))))))) | exact (And.right (And.right (And.right (And.right (by assumption))))) | exact (Ne.symm (And.right (And.right (And.right (And.right (by assumption)))))) | exact (Nat.ne_of_lt (And.right (And.right (And.right (And.right (by assumption)))))) | exact (Nat.ne_of_gt (And.right (And.right (And.right (And.right (by assumption)))))) | exact (And.left (And.right (And.right (And.right (And.right (And.right (by assumption))))))) | exact (Ne.symm (And.left (And.right (And.right (And.right (And.right (And.right (by assumption)))))))) | exact (Nat.ne_of_lt (And.left (And.right (And.right (And.right (And.right (And.right (by assumption)))))))) | exact (Nat.ne_of_gt (And.left (And.right (And.right (And.right (And.right (And.right (by assumption)))))))) | exact (And.right (And.right (And.right (And.right (And.right (by assumption)))))) | exact (Ne.symm (And.right (And.right (And.right (And.right (And.right (by assumption))))))) | exact (Nat.ne_of_lt (And.right (And.right (And.right (And.right (And.right (by assumption))))))) | exact (Nat.ne_of_gt (And.right (And.right (And.right (And.right (And.right (by assumption))))))) | exact (And.left (And.right (And.right (And.right (And.right (And.right (And.right (by assumption)))))))) | exact (Ne.symm (And.left (And.right (And.right (And.right (And.right (And.right (And.right (by assumption))))))))) | exact (Nat.ne_of_lt (And.left (And.right (And.right (And.right (And.right (And.right (And.right (by assumption))))))))) | exact (Nat.ne_of_gt (And.left (And.right (And.right (And.right (And.right (And.right (And.right (by assumption))))))))) | exact (And.right (And.right (And.right (And.right (And.right (And.right (by assumption))))))) | exact (Ne.symm (And.right (And.right (And.right (And.right (And.right (And.right (by assumption)))))))) | exact (Nat.ne_of_lt (And.right (And.right (And.right (And.right (And.right (And.right (by assumption)))))))) | exact (Nat.ne_of_gt (And.right (And.right (And.right (And.right (And.right (And.right (by assumption)))))))) | omega))
  k_with "call ref" => ((k_here;k_dflt (refine' tidied_raises ?R_r35 ?g_r35 ?z_r35 ?sm_r35 ?form_r35 _ _ _ _ _ _ _ _ _ _ ?h1_r35 ?h2_r35 ?h3_r35 ?h4_r35 ?h5_r35 ?h6_r35 ?B_r35 ?F_r35 ?X_r35 ?T_r35 ?KD_r35 ?_;(case R_r35 => walk_at "reads");(case g_r35 => assumption);(case z_r35 => assumption);(case sm_r35 => assumption);(case form_r35 => assumption);(case h1_r35 => assumption);(case h2_r35 => first | exact Around.frames_deeper (Below.stack (by assumption)) | assumption);(case h3_r35 => exact rfl);(case h4_r35 => exact rfl);(case h5_r35 => walk_at "room");(case h6_r35 => walk_at "units");(case B_r35 => assumption);(case F_r35 => assumption);(case X_r35 => assumption);(case T_r35 => assumption);(case KD_r35 => exact ktsKeep (by assumption) (Fr.keep (by k_asm))));intro qe9 qh' qtk' qdr' qth9;(try dsimp only at qth9);(try dsimp only)))
  trivial
namespace refused_ok_n
noncomputable def Wk (w : World) (mean : ExcName → Option Value) (mg : Str → Option Value) (mb : Str → Option Value) (s : Shared) (d : PyData) (A : Around) (A₀ : Around) (base : Heap) (h₀ : Heap) (env : Env) (L : Addr) (m : Str → Option Value) (Q : Value → Shared → Prop) (E : Value → Shared → Prop) : Prop := ∀ (v : Value) (R : Reads s.heap v d []) (hg : good 51 d) (hz : sz d ≤ 900) (hsmall : (kids (kid d 2)).all pairOk = true → (kids (kid d 2)).length ≤ 2) (hform : formB d = false) (hh : A.handled = none) (hA : A.frames = some [env]) (hf : env.frame = some L) (hke : env.scope.kind = .function) (hd : A.depth + 12 < recursionLimit) (hu : A.units + 1000 < cLine) (B : Below A₀ base [] h₀) (F : Fr h₀ L s.heap m) (X : (Mine.hd.heap_39 w.params).In h₀) (T : TopH mean mg mb h₀) (ret : ∀ P h' tk dr, (∀ b o, b ≠ L → s.heap.get? b = some o → h'.get? b = some o) → Fr h₀ L h' m → IsTup h' P #[] → Q (.ref P) { s with heap := h', toks := tk, drawn := dr }), wpAny (model PG w) A (call (.ref 231) [v]) Q E s
theorem inhab : Nonempty ((World) × (ExcName → Option Value) × (Str → Option Value) × (Str → Option Value) × (Shared) × (PyData) × (Around) × (Around) × (Heap) × (Heap) × (Env) × (Addr) × (Str → Option Value) × (Value → Shared → Prop) × (Value → Shared → Prop)) := ⟨((aWorld 1), (fun _ => none), (fun _ => none), (fun _ => none), ({}), (.none), ({}), ({}), ({}), ({}), (envAt 85 0), (0), (fun _ => none), (fun _ _ => True), (fun _ _ => True))⟩
noncomputable def cc : (World) × (ExcName → Option Value) × (Str → Option Value) × (Str → Option Value) × (Shared) × (PyData) × (Around) × (Around) × (Heap) × (Heap) × (Env) × (Addr) × (Str → Option Value) × (Value → Shared → Prop) × (Value → Shared → Prop) := pickA inhab fun c => Wk c.1 c.2.1 c.2.2.1 c.2.2.2.1 c.2.2.2.2.1 c.2.2.2.2.2.1 c.2.2.2.2.2.2.1 c.2.2.2.2.2.2.2.1 c.2.2.2.2.2.2.2.2.1 c.2.2.2.2.2.2.2.2.2.1 c.2.2.2.2.2.2.2.2.2.2.1 c.2.2.2.2.2.2.2.2.2.2.2.1 c.2.2.2.2.2.2.2.2.2.2.2.2.1 c.2.2.2.2.2.2.2.2.2.2.2.2.2.1 c.2.2.2.2.2.2.2.2.2.2.2.2.2.2
@[irreducible] noncomputable def w : World := cc.1
@[irreducible] noncomputable def mean : ExcName → Option Value := cc.2.1
@[irreducible] noncomputable def mg : Str → Option Value := cc.2.2.1
@[irreducible] noncomputable def mb : Str → Option Value := cc.2.2.2.1
@[irreducible] noncomputable def s : Shared := cc.2.2.2.2.1
@[irreducible] noncomputable def d : PyData := cc.2.2.2.2.2.1
@[irreducible] noncomputable def A : Around := cc.2.2.2.2.2.2.1
@[irreducible] noncomputable def A₀ : Around := cc.2.2.2.2.2.2.2.1
@[irreducible] noncomputable def base : Heap := cc.2.2.2.2.2.2.2.2.1
@[irreducible] noncomputable def h₀ : Heap := cc.2.2.2.2.2.2.2.2.2.1
@[irreducible] noncomputable def env : Env := cc.2.2.2.2.2.2.2.2.2.2.1
@[irreducible] noncomputable def L : Addr := cc.2.2.2.2.2.2.2.2.2.2.2.1
@[irreducible] noncomputable def m : Str → Option Value := cc.2.2.2.2.2.2.2.2.2.2.2.2.1
@[irreducible] noncomputable def Q : Value → Shared → Prop := cc.2.2.2.2.2.2.2.2.2.2.2.2.2.1
@[irreducible] noncomputable def E : Value → Shared → Prop := cc.2.2.2.2.2.2.2.2.2.2.2.2.2.2
theorem here : Wk w mean mg mb s d A A₀ base h₀ env L m Q E := by
  unfold Wk
  intro v R hg hz hsmall hform hh hA hf hke hd hu B F X T ret
  (have hFill : ∀ P : Params, (Mine.hd.heap_39 P = Mine.hd.heap_39 P) ∧ PySem.Challenge.rw_rg0113_01 = PySem.Challenge.rw_rg0113_01 := (by k_fill; exact fillK); clear hFill)
  refine wpAny_call ?_
  refine' callF (binds := [(Str.ofString "row", v)]) B F X T.nolimit hA hf hke ?k6 ?k7 (by omega) ?k9 ?kB ?_ ?c1 ?c2 ?c3 ?c4
  case k6 => k_is
  case k7 => k_is
  case k9 => exact BindsTo.of_eq rfl
  case kB => exact locs rfl
  case c1 => decide
  case c2 => exact rfl
  case c3 => exact rfl
  case c4 => exact rfl
  intro L' h₁ F1 B1
  have X1 := X.keeps F.keep
  have T1 := T.keeps F.keep
  have N1 : News s.heap L' h₁ [] := News.nil
  have KD' : KtsDicts ([env].filterMap (·.frame)) s.heap := ktsCons F hf (fun b hm => by simp at hm)
  have X0 := X
  have T0 := T
  have F0 := F
  clear F X T B
  refine wpAny_execs_cons ?_
  refine wpAny_Try_except ?_
  walk_at "go"; all_goals (try k_data)
  all_goals (try dsimp only)
  rename Thrown _ _ _ _ => th
  refine caught (s' := ⟨_, _, _, _, _⟩) (Around.frames_deeper (Below.stack B1)) hf F0 X0 T0 F1 th (by kernel_rfl) ?_
  intro h' oe od mA P tk F3 I hown hpl hP hup X3 T3
  clear X1 T1 N1
  have N3 : News (hideAll s.heap [L]) L' h' [] := News.nil
  walk_at "go"; all_goals (try k_data)
  all_goals (try dsimp only)
  refine exc_get (s := ⟨_, _, _, _, _⟩) (X3.keeps F3.keep) I (by kernel_rfl) (by kernel_rfl) (by kernel_rfl) (find_place hown hpl) (by rfl) ?_
  walk_at "go"; all_goals (try k_data)
  all_goals (try dsimp only)
  refine wpAny_nameGoes (s := ⟨_, _, _, _, _⟩) (by with_unfolding_all rfl) F3.ns (by with_unfolding_all rfl) fun h4 m4 hn4 hs4 => ?_
  have hgL' : s.heap.get? L' = none := kts_self F1
  have k4 : ∀ b o, b ≠ L → s.heap.get? b = some o → h4.get? b = some o := fun b o hb q => (hs4.2 b (by rintro rfl; rw [hgL'] at q; cases q)).trans (F3.keep b o (hideAll_get _ q (by simpa using hb)))
  have hL0 : h₀.get? L = none := kts_self F0
  have hLL : L ≠ L' := by
    rintro rfl
    obtain ⟨oL, _, _, q, _⟩ := F0.ns
    rw [hgL'] at q; cases q
  obtain ⟨oP, hoP, hcP, nP, hdP⟩ := hP
  have hPL : P ≠ L' := by
    rintro rfl
    obtain ⟨oL, es, ep, q, q2, _⟩ := F3.ns
    rw [hoP] at q; cases q
    rw [hdP] at q2; cases q2
  exact ret P h4 _ _ k4 ⟨(up_ns hup F0.ns).sameBut hs4 hLL, fun b o q => k4 b o (by rintro rfl; rw [hL0] at q; cases q) (F0.keep _ _ q), F0.above⟩ ⟨oP, (hs4.2 _ hPL).trans hoP, hcP, nP, hdP⟩
theorem all : ∀ c : (World) × (ExcName → Option Value) × (Str → Option Value) × (Str → Option Value) × (Shared) × (PyData) × (Around) × (Around) × (Heap) × (Heap) × (Env) × (Addr) × (Str → Option Value) × (Value → Shared → Prop) × (Value → Shared → Prop), Wk c.1 c.2.1 c.2.2.1 c.2.2.2.1 c.2.2.2.2.1 c.2.2.2.2.2.1 c.2.2.2.2.2.2.1 c.2.2.2.2.2.2.2.1 c.2.2.2.2.2.2.2.2.1 c.2.2.2.2.2.2.2.2.2.1 c.2.2.2.2.2.2.2.2.2.2.1 c.2.2.2.2.2.2.2.2.2.2.2.1 c.2.2.2.2.2.2.2.2.2.2.2.2.1 c.2.2.2.2.2.2.2.2.2.2.2.2.2.1 c.2.2.2.2.2.2.2.2.2.2.2.2.2.2 := pickA_all (h := inhab) (p := fun c => Wk c.1 c.2.1 c.2.2.1 c.2.2.2.1 c.2.2.2.2.1 c.2.2.2.2.2.1 c.2.2.2.2.2.2.1 c.2.2.2.2.2.2.2.1 c.2.2.2.2.2.2.2.2.1 c.2.2.2.2.2.2.2.2.2.1 c.2.2.2.2.2.2.2.2.2.2.1 c.2.2.2.2.2.2.2.2.2.2.2.1 c.2.2.2.2.2.2.2.2.2.2.2.2.1 c.2.2.2.2.2.2.2.2.2.2.2.2.2.1 c.2.2.2.2.2.2.2.2.2.2.2.2.2.2) (by with_unfolding_all exact @here)
end refused_ok_n
theorem refused_ok {w : World} {mean : ExcName → Option Value} {mg mb : Str → Option Value} {s : Shared} {v : Value} {d : PyData} {A A₀ : Around} {base h₀ : Heap} {env : Env} {L : Addr} {m : Str → Option Value} {Q E : Value → Shared → Prop} (R : Reads s.heap v d []) (hg : good 51 d) (hz : sz d ≤ 900) (hsmall : (kids (kid d 2)).all pairOk = true → (kids (kid d 2)).length ≤ 2) (hform : formB d = false)
    (hh : A.handled = none) (hA : A.frames = some [env]) (hf : env.frame = some L) (hke : env.scope.kind = .function) (hd : A.depth + 12 < recursionLimit) (hu : A.units + 1000 < cLine)
    (B : Below A₀ base [] h₀) (F : Fr h₀ L s.heap m) (X : (Mine.hd.heap_39 w.params).In h₀) (T : TopH mean mg mb h₀)
    (ret : ∀ P h' tk dr, (∀ b o, b ≠ L → s.heap.get? b = some o → h'.get? b = some o) → Fr h₀ L h' m → IsTup h' P #[] → Q (.ref P) { s with heap := h', toks := tk, drawn := dr }) :
    wpAny (model PG w) A (call (.ref 231) [v]) Q E s :=
  refused_ok_n.all (w, mean, mg, mb, s, d, A, A₀, base, h₀, env, L, m, Q, E) v R hg hz hsmall hform hh hA hf hke hd hu B F X T ret
end
section
theorem reg_pick0 : True := by
  k_with_none
  k_with "go" => (repeat' ((fail_if_success (with_reducible show Exists _));(fail_if_success (with_reducible show _ ∧ Keeps _ _));(fail_if_success (with_reducible show wpAny _ _ (eval (PySem.Expr.ListComp _ _ _ _) _) _ _ _));(fail_if_success (with_reducible show wpAny _ _ (exec (Stmt.Assign _ (PySem.Expr.ListComp _ _ _ _) _) _) _ _ _));(fail_if_success (with_reducible show wpAny _ _ (exec (Stmt.While _ _ _ _) _) _ _ _));(fail_if_success (with_reducible show wpAny _ _ (exec (Stmt.For _ _ _ _ _) _) _ _ _));first | (k_unfold;(try dsimp only)) | walk1 | (dsimp only;walk1) | fail "no step"))
  k_with "reads" => (first | with_reducible assumption | exact Reads.keeps (Fr.keep (by k_asm)) (by with_reducible assumption) | (refine' readsNew1 ?rF_r1 ?rN_r1 ?rM_r1 ?rR_r1;(case rF_r1 => k_asm);(case rN_r1 => k_asm);(case rM_r1 => k_mem);(case rR_r1 => with_reducible assumption)))
  k_with "call builtin:len" => ((k_here;(with_reducible show wpAny _ _ (call _ [Value.ref _]) _ _ _);k_dflt (refine' lenLst ?N_r2 ?m_r2 ?z_r2 ?_;(case N_r2 => k_asm);(case m_r2 => k_mem);(case z_r2 => first | assumption | omega);k_whole);intro _ _))
  k_with "call builtin:len" => ((k_here;k_dflt (refine' lenTup ?R_r3 ?t_r3 ?z_r3 ?_;(case R_r3 => walk_at "reads");(case t_r3 => assumption);(case z_r3 => first | assumption | omega);k_whole);intro _ _))
  k_with "call builtin:list.pop" => ((k_here;(with_reducible show wpAny _ _ (call _ [Value.ref _]) _ _ _);k_dflt (refine' popLst ?F_r4 ?N_r4 ?U_r4 ?z_r4 ?_;(case F_r4 => k_asm);(case N_r4 => k_asm);(case U_r4 => k_upd);(case z_r4 => first | assumption | omega);k_whole);intro qh' qF' qN'))
  k_with "call builtin:isinstance" => ((k_here;(with_reducible show wpAny _ _ (call _ [_, Value.type "tuple"]) _ _ _);k_dflt (refine' isiTup ?R_r5 ?_ ?_;(case R_r5 => walk_at "reads"));all_goals (intro qhI;(try intro qtkI);(try dsimp only))))
  k_with "call builtin:isinstance" => ((k_here;(with_reducible show wpAny _ _ (call _ [_, Value.type "str"]) _ _ _);k_dflt (refine' isiStr ?R_r6 ?_ ?_;(case R_r6 => walk_at "reads"));all_goals (first | (intro qxI qtI qeI qhI qlI;(try subst qeI);(try dsimp only)) | (intro qhI qtkI;(try dsimp only)))))
  k_with "subscriptTail" => ((k_here;(with_reducible show wpAny _ _ (subscriptTail _ _ _ (Value.int 0 _)) _ _ _);k_dflt (refine' itemB0 ?F_r7 ?R_r7 ?t_r7 ?k_r7 ?_ ?s_r7;(case F_r7 => k_asm);(case R_r7 => with_reducible assumption);(case t_r7 => assumption);(case k_r7 => omega);(case s_r7 => intro _;with_unfolding_all rfl);k_whole);intro qvI qrI;(try dsimp only at qrI);(try (obtain ⟨qtI, qeI⟩ := reads_strE qrI (by with_reducible assumption);subst qeI));(try dsimp only)))
  k_with "subscriptTail" => ((k_here;(with_reducible show wpAny _ _ (subscriptTail _ _ _ (Value.int 1 _)) _ _ _);k_dflt (refine' itemB1 ?F_r8 ?R_r8 ?t_r8 ?k_r8 ?_ ?s_r8;(case F_r8 => k_asm);(case R_r8 => with_reducible assumption);(case t_r8 => assumption);(case k_r8 => omega);(case s_r8 => intro _;with_unfolding_all rfl);k_whole);intro qvI qrI;(try dsimp only at qrI);(try (obtain ⟨qtI, qeI⟩ := reads_strE qrI (by with_reducible assumption);subst qeI));(try dsimp only)))
  k_with "subscriptTail" => ((k_here;(with_reducible show wpAny _ _ (subscriptTail _ _ _ (Value.int 2 _)) _ _ _);k_dflt (refine' itemB2 ?F_r9 ?R_r9 ?t_r9 ?k_r9 ?_ ?s_r9;(case F_r9 => k_asm);(case R_r9 => with_reducible assumption);(case t_r9 => assumption);(case k_r9 => omega);(case s_r9 => intro _;with_unfolding_all rfl);k_whole);intro qvI qrI;(try dsimp only at qrI);(try (obtain ⟨qtI, qeI⟩ := reads_strE qrI (by with_reducible assumption);subst qeI));(try dsimp only)))
  k_with "subscriptTail" => ((k_here;(with_reducible show wpAny _ _ (subscriptTail _ (PySem.Expr.Slice none (some _) none _) (Value.str _ _) _) _ _ _);(k_dflt (refine strCut1 (s := ⟨_, _, _, _, _⟩) (by assumption) (by assumption) ?hsz_r10 ?_));(case hsz_r10 => (rw [sizeLine_eq];omega));intro qh' qt' qk' qF' qN' qkK;(try dsimp only at qkK);(try dsimp only)))
  k_with "subscriptTail Name Slice str ref" => ((k_here;(with_reducible show wpAny _ _ (subscriptTail _ (PySem.Expr.Slice none (some _) none _) (Value.str _ _) _) _ _ _);(k_dflt (refine strCut1 (s := ⟨_, _, _, _, _⟩) (by assumption) (by assumption) ?hsz_r11 ?_));(case hsz_r11 => (rw [sizeLine_eq];omega));intro qh' qt' qk' qF' qN' qkK;(try dsimp only at qkK);(try dsimp only)))
  k_with "subscriptTail" => ((k_here;(with_reducible show wpAny _ _ (subscriptTail _ (PySem.Expr.Slice (some _) none none _) _ (Value.ref _)) _ _ _);(k_dflt (refine' sliceTup1 (s := ⟨_, _, _, _, _⟩) ?F_r12 ?N_r12 ?R_r12 ?t_r12 ?k_r12 ?z_r12 ?_ ?hs_r12 ?hg_r12;(case F_r12 => k_asm);(case N_r12 => k_asm);(case R_r12 => with_reducible assumption);(case t_r12 => assumption);(case k_r12 => omega);(case z_r12 => omega);(case hs_r12 => intro _;with_unfolding_all rfl);(case hg_r12 => intro _ _;with_unfolding_all rfl)));intro qD' qh' qvs' qF' qN' qR' ql1 qe1;(try k_lt ql1);(try dsimp only)))
  k_with "call builtin:list.extend" => ((k_here;(k_dflt (refine' extLst ?F_r13 ?N_r13 ?b_r13 ?U_r13 ?z_r13 ?_;(case F_r13 => k_asm);(case N_r13 => k_asm);(case b_r13 => k_mem);(case U_r13 => intro qk9;k_upd);(case z_r13 => omega)));intro qh' qk' qF' qN';(try dsimp only)))
  k_with "good" => (first | exact good_shaped (by assumption) (by omega) | exact good_shaped (good_filter (by assumption)) (by omega))
  k_with "units" => (first | exact addLt (by assumption) (by decide) | exact addLt1 (c := 3) (by assumption) (by decide) | exact addLt1 (c := 1) (by assumption) (by decide) | exact addLt2 (c := 3) (d := 1) (by assumption) (by decide) | exact addLt2 (c := 3) (d := 3) (by assumption) (by decide) | omega | ((try simp only [Around.deeper_units, units_in1]);omega))
  k_with "compareOp NotEq ref ref" => ((k_here;(with_reducible show wpAny _ _ (compareOp CmpOp.NotEq (Value.ref _) (Value.ref _)) _ _ _);k_dflt (refine' neNil ?F_r16 ?N_r16 ?E_r16 ?RA_r16 ?D_r16 ?a_r16 ?u_r16 ?_;(case F_r16 => k_asm);(case N_r16 => k_asm);(case E_r16 => k_mem);(case D_r16 => k_mem);(case RA_r16 => with_reducible assumption);(case a_r16 => walk_at "good");(case u_r16 => walk_at "units");k_whole);(try dsimp only)))
  k_with "compareOp Eq ref ref" => ((k_here;(with_reducible show wpAny _ _ (compareOp CmpOp.Eq (Value.ref _) (Value.ref _)) _ _ _);k_dflt (refine' eqNil ?F_r17 ?N_r17 ?E_r17 ?RA_r17 ?D_r17 ?a_r17 ?u_r17 ?_;(case F_r17 => k_asm);(case N_r17 => k_asm);(case E_r17 => k_mem);(case D_r17 => k_mem);(case RA_r17 => with_reducible assumption);(case a_r17 => walk_at "good");(case u_r17 => walk_at "units");k_whole);(try dsimp only)))
  k_with "call type:set" => ((k_here;(with_reducible show wpAny _ _ (call (Value.type "set") [Value.ref _]) _ _ _);k_dflt (refine' setStrs ?hh_r18 ?F_r18 ?N_r18 ?D_r18 ?S_r18 ?z_r18 ?_;(case hh_r18 => assumption);(case F_r18 => k_asm);(case N_r18 => k_asm);(case D_r18 => k_mem);(case S_r18 => with_reducible assumption);(case z_r18 => with_reducible assumption));intro qD' qh' qo' qtk' qF' qN' ql1 qsO;(try k_lt ql1);(try dsimp only)))
  k_with "call builtin:sorted" => ((k_here;(with_reducible show wpAny _ _ (call (Value.builtin "sorted") [Value.ref _]) _ _ _);k_dflt (refine' sortedSet ?hh_r19 ?F_r19 ?N_r19 ?D_r19 ?S_r19 ?z_r19 ?_;(case hh_r19 => assumption);(case F_r19 => k_asm);(case N_r19 => k_asm);(case D_r19 => k_mem);(case S_r19 => with_reducible assumption);(case z_r19 => with_reducible assumption));intro qD' qh' qtk' qdr' qvs' qss' qk' qF' qN' ql1 qsA qpA qsS;(try k_lt ql1);(try dsimp only)))
  k_with "compareOp Eq ref ref" => ((k_here;(with_reducible show wpAny _ _ (compareOp CmpOp.Eq (Value.ref _) (Value.ref _)) _ _ _);k_dflt (refine' eqNames ?F_r20 ?N_r20 ?D_r20 ?E_r20 ?SD_r20 ?SE_r20 ?p_r20 ?s_r20 ?ok_r20 ?z_r20 ?u_r20 ?_;(case F_r20 => k_asm);(case N_r20 => k_asm);(case D_r20 => k_mem);(case E_r20 => k_mem);(case SD_r20 => with_reducible assumption);(case SE_r20 => with_reducible assumption);(case p_r20 => with_reducible assumption);(case s_r20 => with_reducible assumption);(case ok_r20 => with_reducible assumption);(case z_r20 => with_reducible assumption);(case u_r20 => walk_at "units");k_whole);(try dsimp only)))
  k_with "room" => (first | exact addLt (by assumption) (by decide) | exact addLt1 (c := 1) (by assumption) (by decide) | exact addLt2 (c := 1) (d := 1) (by assumption) (by decide) | omega | ((try simp only [depth_deeper, depth_in1]);omega))
  k_with "call ref" => ((k_here;k_dflt (refine' plain_ok ?R_r22 ?z_r22 _ _ _ _ _ _ _ _ _ _ ?h1_r22 ?h2_r22 ?h3_r22 ?h4_r22 ?h5_r22 ?h6_r22 ?B_r22 ?F_r22 ?X_r22 ?T_r22 ?_;(case R_r22 => walk_at "reads");(case z_r22 => first | assumption | omega | (simp only [sz, szAll];omega));(case h1_r22 => assumption);(case h2_r22 => first | exact Around.frames_deeper (Below.stack (by assumption)) | assumption);(case h3_r22 => exact rfl);(case h4_r22 => exact rfl);(case h5_r22 => walk_at "room");(case h6_r22 => walk_at "units");(case B_r22 => assumption);(case F_r22 => assumption);(case X_r22 => assumption);(case T_r22 => assumption));intro qv9 qh' qtk' qkK;(try dsimp only at qkK);(rename News _ _ _ _ => qN9);(have qN' := Keep.news qkK qN9);(rename Fr _ _ _ _ => qF9);(have qF9k := fun (_ : True) => Keep.fr qkK qF9);intro qhF' qhP';(have qF' := qF9k True.intro);clear qF9k;(try subst qhP');(try dsimp only)))
  k_with "call ref" => ((k_here;k_dflt (refine' places_ok ?R_r23 ?g_r23 ?sm_r23 _ _ _ _ _ _ _ _ _ _ ?h1_r23 ?h2_r23 ?h3_r23 ?h4_r23 ?h5_r23 ?h6_r23 ?B_r23 ?F_r23 ?X_r23 ?T_r23 ?_;(case R_r23 => walk_at "reads");(case g_r23 => first | assumption | exact good_kids (by assumption) _ (kid_mem (by omega)));(case sm_r23 => assumption);(case h1_r23 => assumption);(case h2_r23 => first | exact Around.frames_deeper (Below.stack (by assumption)) | assumption);(case h3_r23 => exact rfl);(case h4_r23 => exact rfl);(case h5_r23 => walk_at "room");(case h6_r23 => walk_at "units");(case B_r23 => assumption);(case F_r23 => assumption);(case X_r23 => assumption);(case T_r23 => assumption));intro qv9 qh' qtk' qdr' qkK;(try dsimp only at qkK);(rename News _ _ _ _ => qN9);(have qN' := Keep.news qkK qN9);(rename Fr _ _ _ _ => qF9);(have qF9k := fun (_ : True) => Keep.fr qkK qF9);intro qhF' qhP';(have qF' := qF9k True.intro);clear qF9k;(try subst qhP');(try dsimp only)))
  k_with "unpackItems ref" => ((k_here;k_dflt (refine' unpackTup ?F_r24 ?N_r24 ?hh_r24 ?ht_r24 ?hn_r24 ?_;(case F_r24 => k_asm);(case N_r24 => k_asm);(case hh_r24 => assumption);(case ht_r24 => kun_tup);(case hn_r24 => exact rfl);k_whole);intro qh' qF' qN' qkK;(try dsimp only)))
  k_with "go2" => (repeat' ((fail_if_success (with_reducible show Exists _));(fail_if_success (with_reducible show _ ∧ Keeps _ _));(fail_if_success (with_reducible show wpAny _ _ (eval (PySem.Expr.ListComp _ _ _ _) _) _ _ _));(fail_if_success (with_reducible show wpAny _ _ (exec (Stmt.Assign _ (PySem.Expr.ListComp _ _ _ _) _) _) _ _ _));(fail_if_success (with_reducible show wpAny _ _ (exec (Stmt.For _ _ _ _ _) _) _ _ _));first | (k_unfold;(try dsimp only)) | walk1 | (dsimp only;walk1) | fail "no step"))
  k_with "call ref" => ((k_here;k_dflt (refine' form_ok ?R_r26 ?g_r26 ?z_r26 ?sm_r26 _ _ _ _ _ _ _ _ _ _ ?h1_r26 ?h2_r26 ?h3_r26 ?h4_r26 ?h5_r26 ?h6_r26 ?B_r26 ?F_r26 ?X_r26 ?T_r26 ?_;(case R_r26 => walk_at "reads");(case g_r26 => assumption);(case z_r26 => assumption);(case sm_r26 => assumption);(case h1_r26 => assumption);(case h2_r26 => first | exact Around.frames_deeper (Below.stack (by assumption)) | assumption);(case h3_r26 => exact rfl);(case h4_r26 => exact rfl);(case h5_r26 => walk_at "room");(case h6_r26 => walk_at "units");(case B_r26 => assumption);(case F_r26 => assumption);(case X_r26 => assumption);(case T_r26 => assumption));intro qv9 qh' qtk' qdr' qkK;(try dsimp only at qkK);(rename News _ _ _ _ => qN9);(have qN' := Keep.news qkK qN9);(rename Fr _ _ _ _ => qF9);(have qF9k := fun (_ : True) => Keep.fr qkK qF9);intro qhF' qhP';(have qF' := qF9k True.intro);clear qF9k;(try subst qhP');(try dsimp only)))
  k_with "call ref" => ((k_here;k_dflt (refine' parts_ok ?R_r27 ?t_r27 ?l_r27 ?o_r27 _ _ _ _ _ _ _ _ _ _ ?h1_r27 ?h2_r27 ?h3_r27 ?h4_r27 ?h5_r27 ?h6_r27 ?B_r27 ?F_r27 ?X_r27 ?T_r27 ?_;(case R_r27 => walk_at "reads");(case t_r27 => assumption);(case l_r27 => assumption);(case o_r27 => assumption);(case h1_r27 => assumption);(case h2_r27 => first | exact Around.frames_deeper (Below.stack (by assumption)) | assumption);(case h3_r27 => exact rfl);(case h4_r27 => exact rfl);(case h5_r27 => walk_at "room");(case h6_r27 => walk_at "units");(case B_r27 => assumption);(case F_r27 => assumption);(case X_r27 => assumption);(case T_r27 => assumption));intro qv9 qh' qtk' qkK;(try dsimp only at qkK);(rename News _ _ _ _ => qN9);(have qN' := Keep.news qkK qN9);(rename Fr _ _ _ _ => qF9);(have qF9k := fun (_ : True) => Keep.fr qkK qF9);intro qhF' qhP';(have qF' := qF9k True.intro);clear qF9k;(obtain ⟨qT9, qe9, qo9, qn9⟩ := qhP';subst qe9);(try dsimp only at qn9);(have qN'' := newsAdd qF9 qN' qo9 qn9);(have qne9 := newsNe qN9 qn9);clear qN';(simp only [List.forall_mem_cons, List.not_mem_nil, false_implies, implies_true, and_true] at qne9);(try dsimp only)))
  k_with "assign Tuple" => ((k_here;k_dflt (refine' asgPair ?F_r28 ?N_r28 ?hh_r28 ?ht_r28 ?_;(case F_r28 => k_asm);(case N_r28 => k_asm);(case hh_r28 => assumption);(case ht_r28 => kun_tup);k_whole);intro qh' qF' qN' qkK;(try dsimp only)))
  k_with "go3" => (repeat' ((fail_if_success (with_reducible show Exists _));(fail_if_success (with_reducible show _ ∧ Keeps _ _));(fail_if_success (with_reducible show wpAny _ _ (exec (Stmt.Assign _ (PySem.Expr.ListComp _ _ _ _) _) _) _ _ _));(fail_if_success (with_reducible show wpAny _ _ (exec (Stmt.For _ _ _ _ _) _) _ _ _));first | (k_unfold;(try dsimp only)) | walk1 | (dsimp only;walk1) | fail "no step"))
  k_with "call type:enumerate" => ((k_here;(with_reducible show wpAny _ _ (call (Value.type "enumerate") [Value.ref _]) _ _ _);k_dflt (refine' enumT ?F_r30 ?N_r30 ?m_r30 ?_;(case F_r30 => k_asm);(case N_r30 => k_asm);(case m_r30 => k_mem));intro qe qh' qF' qN' qkE;(try dsimp only)))
  k_with "go4" => (repeat' ((fail_if_success (with_reducible show Exists _));(fail_if_success (with_reducible show _ ∧ Keeps _ _));(fail_if_success (with_reducible show wpAny _ _ (eval (PySem.Expr.ListComp _ _ _ _) _) _ _ _));(fail_if_success (with_reducible show wpAny _ _ (exec (Stmt.Assign _ (PySem.Expr.ListComp _ _ _ _) _) _) _ _ _));first | (k_unfold;(try dsimp only)) | walk1 | (dsimp only;walk1) | fail "no step"))
  k_with "call ref" => ((k_here;k_dflt (refine' order_ok ?R_r32 ?g_r32 ?z_r32 ?sm_r32 ?hc_r32 _ _ _ _ _ _ _ _ _ _ ?h1_r32 ?h2_r32 ?h3_r32 ?h4_r32 ?h5_r32 ?h6_r32 ?B_r32 ?F_r32 ?X_r32 ?T_r32 ?_;(case R_r32 => walk_at "reads");(case g_r32 => assumption);(case z_r32 => assumption);(case sm_r32 => assumption);(case hc_r32 => assumption);(case h1_r32 => assumption);(case h2_r32 => first | exact Around.frames_deeper (Below.stack (by assumption)) | assumption);(case h3_r32 => exact rfl);(case h4_r32 => exact rfl);(case h5_r32 => walk_at "room");(case h6_r32 => walk_at "units");(case B_r32 => assumption);(case F_r32 => assumption);(case X_r32 => assumption);(case T_r32 => assumption));intro qv9 qh' qtk' qdr' qkK;(try dsimp only at qkK);(rename News _ _ _ _ => qN9);(have qN' := Keep.news qkK qN9);(rename Fr _ _ _ _ => qF9);(have qF9k := fun (_ : True) => Keep.fr qkK qF9);intro qhF' qhP';(have qF' := qF9k True.intro);clear qF9k;(obtain ⟨qD9, qT9, qP9, qk9, qe9, qoD9, qoT9, qoP9, qnD9, qnT9, qnP9⟩ := qhP';subst qe9);(try dsimp only at qnD9 qnT9 qnP9);(have qNp := newsAdd qF9 qN' qoP9 qnP9);(have qNt := newsAdd qF9 qNp qoT9 qnT9);(have qNd := newsAdd qF9 qNt qoD9 qnD9);(have qneP := newsNe qN9 qnP9);(have qneT := newsNe qN9 qnT9);(have qneD := newsNe qN9 qnD9);(have qnePT := ne3 qoD9 qoT9 qoP9);clear qN' qNp qNt;(simp only [List.forall_mem_cons, List.not_mem_nil, false_implies, implies_true, and_true] at qneP qneT qneD);(try dsimp only)))
  k_with "call ref" => ((k_here;k_dflt (refine' want_raises ?R_r33 ?g_r33 ?z_r33 ?sm_r33 ?form_r33 ?P_r33 _ _ _ _ _ _ _ _ _ _ ?h1_r33 ?h2_r33 ?h3_r33 ?h4_r33 ?h5_r33 ?h6_r33 ?B_r33 ?F_r33 ?X_r33 ?T_r33 ?KD_r33 ?_;(case R_r33 => walk_at "reads");(case g_r33 => assumption);(case z_r33 => assumption);(case sm_r33 => assumption);(case form_r33 => assumption);(case P_r33 => exact ⟨_, News.get (by k_asm) (by k_mem), rfl, _, rfl⟩);(case h1_r33 => assumption);(case h2_r33 => first | exact Around.frames_deeper (Below.stack (by assumption)) | assumption);(case h3_r33 => exact rfl);(case h4_r33 => exact rfl);(case h5_r33 => walk_at "room");(case h6_r33 => walk_at "units");(case B_r33 => assumption);(case F_r33 => assumption);(case X_r33 => assumption);(case T_r33 => assumption);(case KD_r33 => exact ktsKeep (by assumption) (Fr.keep (by k_asm))));intro qe9 qh' qtk' qdr' qth9;(try dsimp only at qth9);(try dsimp only)))
  k_with "k_ne" => ((refine neN ?_;(try dsimp only);first | assumption | exact Ne.symm (by assumption) | exact Nat.ne_of_lt (by assumption) | exact Nat.ne_of_gt (by assumption) | exact (And.left (by assumption)) | exact (Ne.symm (And.left (by assumption))) | exact (Nat.ne_of_lt (And.left (by assumption))) | exact (Nat.ne_of_gt (And.left (by assumption))) | exact (And.left (And.right (by assumption))) | exact (Ne.symm (And.left (And.right (by assumption)))) | exact (Nat.ne_of_lt (And.left (And.right (by assumption)))) | exact (Nat.ne_of_gt (And.left (And.right (by assumption)))) | exact (And.right (by assumption)) | exact (Ne.symm (And.right (by assumption))) | exact (Nat.ne_of_lt (And.right (by assumption))) | exact (Nat.ne_of_gt (And.right (by assumption))) | exact (And.left (And.right (And.right (by assumption)))) | exact (Ne.symm (And.left (And.right (And.right (by assumption))))) | exact (Nat.ne_of_lt (And.left (And.right (And.right (by assumption))))) | exact (Nat.ne_of_gt (And.left (And.right (And.right (by assumption))))) | exact (And.right (And.right (by assumption))) | exact (Ne.symm (And.right (And.right (by assumption)))) | exact (Nat.ne_of_lt (And.right (And.right (by assumption)))) | exact (Nat.ne_of_gt (And.right (And.right (by assumption)))) | exact (And.left (And.right (And.right (And.right (by assumption))))) | exact (Ne.symm (And.left (And.right (And.right (And.right (by assumption)))))) | exact (Nat.ne_of_lt (And.left (And.right (And.right (And.right (by assumption)))))) | exact (Nat.ne_of_gt (And.left (And.right (And.right (And.right (by assumption)))))) | exact (And.right (And.right (And.right (by assumption)))) | exact (Ne.symm (And.right (And.right (And.right (by assumption))))) | exact (Nat.ne_of_lt (And.right (And.right (And.right (by assumption))))) | exact (Nat.ne_of_gt (And.right (And.right (And.right (by assumption))))) | exact (And.left (And.right (And.right (And.right (And.right (by assumption)))))) | exact (Ne.symm (And.left (And.right (And.right (And.right (And.right (by assumption))))))) | exact (Nat.ne_of_lt (And.left (And.right (And.right (And.right (And.right (by assumption))))))) | exact (Nat.ne_of_gt (And.left (And.right (And.right (And.right (And.right (by assumption))))))) | exact (And.right (And.right (And.right (And.right (by assumption))))) | exact (Ne.symm (And.right (And.right (And.right (And.right (by assumption)))))) | exact (Nat.ne_of_lt (And.right (And.right (And.right (And.right (by assumption)))))) | exact (Nat.ne_of_gt (And.right (And.right (And.right (And.right (by assumption)))))) | exact (And.left (And.right (And.right (And.right (And.right (And.right (by assumption))))))) | exact (Ne.symm (And.left (And.right (And.right (And.right (And.right (And.right (by assumption)))))))) | exact (Nat.ne_of_lt (And.left (And.right (And.right (And.right (And.right (And.right (by assumption)))))))) | exact (Nat.ne_of_gt (And.left (And.right (And.right (And.right (And.right (And.right (by assumption)))))))) | exact (And.right (And.right (And.right (And.right (And.right (by assumption)))))) | exact (Ne.symm (And.right (And.right (And.right (And.right (And.right (by assumption))))))) | exact (Nat.ne_of_lt (And.right (And.right (And.right (And.right (And.right (by assumption))))))) | exact (Nat.ne_of_gt (And.right (And.right (And.right (And.right (And.right (by assumption))))))) | exact (And.left (And.right (And.right (And.right (And.right (And.right (And.right (by assumption)))))))) | exact (Ne.symm (And.left (And.right (And.right (And.right (And.right (And.right (And.right (by assumption))))))))) | exact (Nat.ne_of_lt (And.left (And.right (And.right (And.right (And.right (And.right (And.right (by assumption))))))))) | exact (Nat.ne_of_gt (And.left (And.right (And.right (And.right (And.right (And.right (And.right (by assumption))))))))) | exact (And.right (And.right (And.right (And.right (And.right (And.right (by assumption))))))) | exact (Ne.symm (And.right (And.right (And.right (And.right (And.right (And.right (by assumption)))))))) | exact (Nat.ne_of_lt (And.right (And.right (And.right (And.right (And.right (And.right (by assumption)))))))) | exact (Nat.ne_of_gt (And.right (And.right (And.right (And.right (And.right (And.right (by assumption)))))))) | omega))
  trivial
namespace pick_ok_n
noncomputable def Wk (w : World) (mean : ExcName → Option Value) (mg : Str → Option Value) (mb : Str → Option Value) (s : Shared) (A : Around) (A₀ : Around) (base : Heap) (h₀ : Heap) (outer : List Env) (env : Env) (L : Addr) (D : Addr) (R : Addr) (m : Str → Option Value) (Q : Value → Shared → Prop) (E : Value → Shared → Prop) (o : Obj) (ys : List Value) (ns : List Int) (k : Int) (t3 : Tok) (tm : Tok) (many : Int) (news : List (Addr × Obj)) (news' : Obj → List (Addr × Obj)) : Prop := ∀  (hh : A.handled = none) (hA : A.frames = some (env :: outer)) (hf : env.frame = some L) (hke : env.scope.kind = .function) (hd : A.depth + 12 < recursionLimit) (hu : A.units + 1000 < cLine) (B : Below A₀ base outer h₀) (F : Fr h₀ L s.heap m) (X : (Mine.hd.heap_39 w.params).In h₀) (T : TopH mean mg mb h₀) (N : News h₀ L s.heap news) (U : ∀ o', Upd D o o' news (news' o')) (hR : (R, LCg.lst ys) ∈ news) (hne : @Ne Nat R D) (hI : IntsAre ys ns) (hlen : ns.length ≤ 20) (hk0 : 0 ≤ k) (hk : k ≤ 20) (hD : o.IsDictOf (PySem.strKind PG w) [(Str.ofString "row", .ref R), (Str.ofString "at", .int k t3)]) (lo : (D == sysModules) = false) (hm1 : 1 ≤ many) (hm2 : many ≤ 200) (ret : ∀ i t o' t3' h' tk, 0 ≤ i → i < many → o'.IsDictOf (PySem.strKind PG w) [(Str.ofString "row", .ref R), (Str.ofString "at", .int (k + 1) t3')] → Fr h₀ L h' m → News h₀ L h' (news' o') → Q (.int i t) { s with heap := h', toks := tk }), wpAny (model PG w) A (call (.ref 212) [.ref D, .int many tm]) Q E s
theorem inhab : Nonempty ((World) × (ExcName → Option Value) × (Str → Option Value) × (Str → Option Value) × (Shared) × (Around) × (Around) × (Heap) × (Heap) × (List Env) × (Env) × (Addr) × (Addr) × (Addr) × (Str → Option Value) × (Value → Shared → Prop) × (Value → Shared → Prop) × (Obj) × (List Value) × (List Int) × (Int) × (Tok) × (Tok) × (Int) × (List (Addr × Obj)) × (Obj → List (Addr × Obj))) := ⟨((aWorld 1), (fun _ => none), (fun _ => none), (fun _ => none), ({}), ({}), ({}), ({}), ({}), ([]), (envAt 85 0), (0), (0), (0), (fun _ => none), (fun _ _ => True), (fun _ _ => True), (⟨.none, none, .freed, #[]⟩), ([]), ([]), (0), (0), (0), (0), ([]), (fun _ => []))⟩
noncomputable def cc : (World) × (ExcName → Option Value) × (Str → Option Value) × (Str → Option Value) × (Shared) × (Around) × (Around) × (Heap) × (Heap) × (List Env) × (Env) × (Addr) × (Addr) × (Addr) × (Str → Option Value) × (Value → Shared → Prop) × (Value → Shared → Prop) × (Obj) × (List Value) × (List Int) × (Int) × (Tok) × (Tok) × (Int) × (List (Addr × Obj)) × (Obj → List (Addr × Obj)) := pickA inhab fun c => Wk c.1 c.2.1 c.2.2.1 c.2.2.2.1 c.2.2.2.2.1 c.2.2.2.2.2.1 c.2.2.2.2.2.2.1 c.2.2.2.2.2.2.2.1 c.2.2.2.2.2.2.2.2.1 c.2.2.2.2.2.2.2.2.2.1 c.2.2.2.2.2.2.2.2.2.2.1 c.2.2.2.2.2.2.2.2.2.2.2.1 c.2.2.2.2.2.2.2.2.2.2.2.2.1 c.2.2.2.2.2.2.2.2.2.2.2.2.2.1 c.2.2.2.2.2.2.2.2.2.2.2.2.2.2.1 c.2.2.2.2.2.2.2.2.2.2.2.2.2.2.2.1 c.2.2.2.2.2.2.2.2.2.2.2.2.2.2.2.2.1 c.2.2.2.2.2.2.2.2.2.2.2.2.2.2.2.2.2.1 c.2.2.2.2.2.2.2.2.2.2.2.2.2.2.2.2.2.2.1 c.2.2.2.2.2.2.2.2.2.2.2.2.2.2.2.2.2.2.2.1 c.2.2.2.2.2.2.2.2.2.2.2.2.2.2.2.2.2.2.2.2.1 c.2.2.2.2.2.2.2.2.2.2.2.2.2.2.2.2.2.2.2.2.2.1 c.2.2.2.2.2.2.2.2.2.2.2.2.2.2.2.2.2.2.2.2.2.2.1 c.2.2.2.2.2.2.2.2.2.2.2.2.2.2.2.2.2.2.2.2.2.2.2.1 c.2.2.2.2.2.2.2.2.2.2.2.2.2.2.2.2.2.2.2.2.2.2.2.2.1 c.2.2.2.2.2.2.2.2.2.2.2.2.2.2.2.2.2.2.2.2.2.2.2.2.2
@[irreducible] noncomputable def w : World := cc.1
@[irreducible] noncomputable def mean : ExcName → Option Value := cc.2.1
@[irreducible] noncomputable def mg : Str → Option Value := cc.2.2.1
@[irreducible] noncomputable def mb : Str → Option Value := cc.2.2.2.1
@[irreducible] noncomputable def s : Shared := cc.2.2.2.2.1
@[irreducible] noncomputable def A : Around := cc.2.2.2.2.2.1
@[irreducible] noncomputable def A₀ : Around := cc.2.2.2.2.2.2.1
@[irreducible] noncomputable def base : Heap := cc.2.2.2.2.2.2.2.1
@[irreducible] noncomputable def h₀ : Heap := cc.2.2.2.2.2.2.2.2.1
@[irreducible] noncomputable def outer : List Env := cc.2.2.2.2.2.2.2.2.2.1
@[irreducible] noncomputable def env : Env := cc.2.2.2.2.2.2.2.2.2.2.1
@[irreducible] noncomputable def L : Addr := cc.2.2.2.2.2.2.2.2.2.2.2.1
@[irreducible] noncomputable def D : Addr := cc.2.2.2.2.2.2.2.2.2.2.2.2.1
@[irreducible] noncomputable def R : Addr := cc.2.2.2.2.2.2.2.2.2.2.2.2.2.1
@[irreducible] noncomputable def m : Str → Option Value := cc.2.2.2.2.2.2.2.2.2.2.2.2.2.2.1
@[irreducible] noncomputable def Q : Value → Shared → Prop := cc.2.2.2.2.2.2.2.2.2.2.2.2.2.2.2.1
@[irreducible] noncomputable def E : Value → Shared → Prop := cc.2.2.2.2.2.2.2.2.2.2.2.2.2.2.2.2.1
@[irreducible] noncomputable def o : Obj := cc.2.2.2.2.2.2.2.2.2.2.2.2.2.2.2.2.2.1
@[irreducible] noncomputable def ys : List Value := cc.2.2.2.2.2.2.2.2.2.2.2.2.2.2.2.2.2.2.1
@[irreducible] noncomputable def ns : List Int := cc.2.2.2.2.2.2.2.2.2.2.2.2.2.2.2.2.2.2.2.1
@[irreducible] noncomputable def k : Int := cc.2.2.2.2.2.2.2.2.2.2.2.2.2.2.2.2.2.2.2.2.1
@[irreducible] noncomputable def t3 : Tok := cc.2.2.2.2.2.2.2.2.2.2.2.2.2.2.2.2.2.2.2.2.2.1
@[irreducible] noncomputable def tm : Tok := cc.2.2.2.2.2.2.2.2.2.2.2.2.2.2.2.2.2.2.2.2.2.2.1
@[irreducible] noncomputable def many : Int := cc.2.2.2.2.2.2.2.2.2.2.2.2.2.2.2.2.2.2.2.2.2.2.2.1
@[irreducible] noncomputable def news : List (Addr × Obj) := cc.2.2.2.2.2.2.2.2.2.2.2.2.2.2.2.2.2.2.2.2.2.2.2.2.1
@[irreducible] noncomputable def news' : Obj → List (Addr × Obj) := cc.2.2.2.2.2.2.2.2.2.2.2.2.2.2.2.2.2.2.2.2.2.2.2.2.2
theorem here : Wk w mean mg mb s A A₀ base h₀ outer env L D R m Q E o ys ns k t3 tm many news news' := by
  unfold Wk
  intro  hh hA hf hke hd hu B F X T N U hR hne hI hlen hk0 hk hD lo hm1 hm2 ret
  (have hFill : ∀ P : Params, (Mine.hd.heap_39 P = Mine.hd.heap_39 P) ∧ PySem.Challenge.rw_rg0113_01 = PySem.Challenge.rw_rg0113_01 := (by k_fill; exact fillK); clear hFill)
  have hm : (D, o) ∈ news := updMem (U o)
  have NS : News h₀ L s.heap [(D, o), (R, LCg.lst ys)] := fun p hp => by
    rcases List.mem_cons.mp hp with rfl | hp
    · exact N _ hm
    · rw [List.mem_singleton.mp hp]; exact N _ hR
  refine wpAny_call ?_
  refine' callFN (binds := [(Str.ofString "feed", .ref D), (Str.ofString "many", .int many tm)]) B F X NS T hA hf hke ?k6 ?k7 (by omega) ?k9 ?kB ?_ ?c1 ?c2 ?c3 ?c4
  case k6 => k_is
  case k7 => k_is
  case k9 => exact BindsTo.of_eq rfl
  case kB => exact locs rfl
  case c1 => decide
  case c2 => exact rfl
  case c3 => exact rfl
  case c4 => exact rfl
  intro g L' h₁ hg F1 N1 B1 X1 T1 l1
  k_lt l1
  have F0 := F
  have N0 := N
  clear F N NS T B X
  have k9 : ∀ {h'' : Heap} {m'' : Str → Option Value} {o9 : Obj}, Fr g L' h'' m'' → News g L' h'' [(D, o9), (R, LCg.lst ys)] → ∀ b ob, b ≠ D → s.heap.get? b = some ob → h''.get? b = some ob := fun {h'' m'' o9} F9 N9 b ob hb q => by
    by_cases e : b = R
    · subst e
      rw [(N0 _ hR).1] at q; cases q
      exact (N9 _ (.tail _ (.head _))).1
    · exact F9.keep _ _ (hg ▸ hideAll_get _ q (by simp [hb, e]))
  walk_at "go"; all_goals (try k_data)
  all_goals (try dsimp only)
  all_goals (rename News g L' _ _ => N9; rename Fr g L' _ _ => F9; rename Obj.IsDictOf _ _ _ => d9)
  all_goals (exact ret _ _ _ _ _ _ (Int.fmod_nonneg_of_pos _ (by omega)) (Int.fmod_lt_of_pos _ (by omega)) d9 (updFr F0 N0 (U o) (k9 F9 N9)) (updNews N0 (U _) (k9 F9 N9) (N9.get (by k_mem))))
theorem all : ∀ c : (World) × (ExcName → Option Value) × (Str → Option Value) × (Str → Option Value) × (Shared) × (Around) × (Around) × (Heap) × (Heap) × (List Env) × (Env) × (Addr) × (Addr) × (Addr) × (Str → Option Value) × (Value → Shared → Prop) × (Value → Shared → Prop) × (Obj) × (List Value) × (List Int) × (Int) × (Tok) × (Tok) × (Int) × (List (Addr × Obj)) × (Obj → List (Addr × Obj)), Wk c.1 c.2.1 c.2.2.1 c.2.2.2.1 c.2.2.2.2.1 c.2.2.2.2.2.1 c.2.2.2.2.2.2.1 c.2.2.2.2.2.2.2.1 c.2.2.2.2.2.2.2.2.1 c.2.2.2.2.2.2.2.2.2.1 c.2.2.2.2.2.2.2.2.2.2.1 c.2.2.2.2.2.2.2.2.2.2.2.1 c.2.2.2.2.2.2.2.2.2.2.2.2.1 c.2.2.2.2.2.2.2.2.2.2.2.2.2.1 c.2.2.2.2.2.2.2.2.2.2.2.2.2.2.1 c.2.2.2.2.2.2.2.2.2.2.2.2.2.2.2.1 c.2.2.2.2.2.2.2.2.2.2.2.2.2.2.2.2.1 c.2.2.2.2.2.2.2.2.2.2.2.2.2.2.2.2.2.1 c.2.2.2.2.2.2.2.2.2.2.2.2.2.2.2.2.2.2.1 c.2.2.2.2.2.2.2.2.2.2.2.2.2.2.2.2.2.2.2.1 c.2.2.2.2.2.2.2.2.2.2.2.2.2.2.2.2.2.2.2.2.1 c.2.2.2.2.2.2.2.2.2.2.2.2.2.2.2.2.2.2.2.2.2.1 c.2.2.2.2.2.2.2.2.2.2.2.2.2.2.2.2.2.2.2.2.2.2.1 c.2.2.2.2.2.2.2.2.2.2.2.2.2.2.2.2.2.2.2.2.2.2.2.1 c.2.2.2.2.2.2.2.2.2.2.2.2.2.2.2.2.2.2.2.2.2.2.2.2.1 c.2.2.2.2.2.2.2.2.2.2.2.2.2.2.2.2.2.2.2.2.2.2.2.2.2 := pickA_all (h := inhab) (p := fun c => Wk c.1 c.2.1 c.2.2.1 c.2.2.2.1 c.2.2.2.2.1 c.2.2.2.2.2.1 c.2.2.2.2.2.2.1 c.2.2.2.2.2.2.2.1 c.2.2.2.2.2.2.2.2.1 c.2.2.2.2.2.2.2.2.2.1 c.2.2.2.2.2.2.2.2.2.2.1 c.2.2.2.2.2.2.2.2.2.2.2.1 c.2.2.2.2.2.2.2.2.2.2.2.2.1 c.2.2.2.2.2.2.2.2.2.2.2.2.2.1 c.2.2.2.2.2.2.2.2.2.2.2.2.2.2.1 c.2.2.2.2.2.2.2.2.2.2.2.2.2.2.2.1 c.2.2.2.2.2.2.2.2.2.2.2.2.2.2.2.2.1 c.2.2.2.2.2.2.2.2.2.2.2.2.2.2.2.2.2.1 c.2.2.2.2.2.2.2.2.2.2.2.2.2.2.2.2.2.2.1 c.2.2.2.2.2.2.2.2.2.2.2.2.2.2.2.2.2.2.2.1 c.2.2.2.2.2.2.2.2.2.2.2.2.2.2.2.2.2.2.2.2.1 c.2.2.2.2.2.2.2.2.2.2.2.2.2.2.2.2.2.2.2.2.2.1 c.2.2.2.2.2.2.2.2.2.2.2.2.2.2.2.2.2.2.2.2.2.2.1 c.2.2.2.2.2.2.2.2.2.2.2.2.2.2.2.2.2.2.2.2.2.2.2.1 c.2.2.2.2.2.2.2.2.2.2.2.2.2.2.2.2.2.2.2.2.2.2.2.2.1 c.2.2.2.2.2.2.2.2.2.2.2.2.2.2.2.2.2.2.2.2.2.2.2.2.2) (by with_unfolding_all exact @here)
end pick_ok_n
theorem pick_ok {w : World} {mean : ExcName → Option Value} {mg mb : Str → Option Value} {s : Shared} {A A₀ : Around} {base h₀ : Heap} {outer : List Env} {env : Env} {L D R : Addr} {m : Str → Option Value} {Q E : Value → Shared → Prop} {o : Obj} {ys : List Value} {ns : List Int} {k : Int} {t3 tm : Tok} {many : Int} {news : List (Addr × Obj)} {news' : Obj → List (Addr × Obj)}
    (hh : A.handled = none) (hA : A.frames = some (env :: outer)) (hf : env.frame = some L) (hke : env.scope.kind = .function) (hd : A.depth + 12 < recursionLimit) (hu : A.units + 1000 < cLine)
    (B : Below A₀ base outer h₀) (F : Fr h₀ L s.heap m) (X : (Mine.hd.heap_39 w.params).In h₀) (T : TopH mean mg mb h₀)
    (N : News h₀ L s.heap news) (U : ∀ o', Upd D o o' news (news' o')) (hR : (R, LCg.lst ys) ∈ news) (hne : @Ne Nat R D) (hI : IntsAre ys ns) (hlen : ns.length ≤ 20) (hk0 : 0 ≤ k) (hk : k ≤ 20)
    (hD : o.IsDictOf (PySem.strKind PG w) [(Str.ofString "row", .ref R), (Str.ofString "at", .int k t3)]) (lo : (D == sysModules) = false) (hm1 : 1 ≤ many) (hm2 : many ≤ 200)
    (ret : ∀ i t o' t3' h' tk, 0 ≤ i → i < many → o'.IsDictOf (PySem.strKind PG w) [(Str.ofString "row", .ref R), (Str.ofString "at", .int (k + 1) t3')] → Fr h₀ L h' m → News h₀ L h' (news' o') → Q (.int i t) { s with heap := h', toks := tk }) :
    wpAny (model PG w) A (call (.ref 212) [.ref D, .int many tm]) Q E s :=
  pick_ok_n.all (w, mean, mg, mb, s, A, A₀, base, h₀, outer, env, L, D, R, m, Q, E, o, ys, ns, k, t3, tm, many, news, news')  hh hA hf hke hd hu B F X T N U hR hne hI hlen hk0 hk hD lo hm1 hm2 ret
end
section
theorem reg_rows0 : True := by
  k_with_none
  k_with "go" => (repeat' ((fail_if_success (with_reducible show Exists _));(fail_if_success (with_reducible show _ ∧ Keeps _ _));(fail_if_success (with_reducible show wpAny _ _ (eval (PySem.Expr.ListComp _ _ _ _) _) _ _ _));(fail_if_success (with_reducible show wpAny _ _ (exec (Stmt.Assign _ (PySem.Expr.ListComp _ _ _ _) _) _) _ _ _));(fail_if_success (with_reducible show wpAny _ _ (exec (Stmt.While _ _ _ _) _) _ _ _));(fail_if_success (with_reducible show wpAny _ _ (exec (Stmt.For _ _ _ _ _) _) _ _ _));first | (k_unfold;(try dsimp only)) | walk1 | (dsimp only;walk1) | fail "no step"))
  k_with "reads" => (first | with_reducible assumption | exact Reads.keeps (Fr.keep (by k_asm)) (by with_reducible assumption) | (refine' readsNew1 ?rF_r1 ?rN_r1 ?rM_r1 ?rR_r1;(case rF_r1 => k_asm);(case rN_r1 => k_asm);(case rM_r1 => k_mem);(case rR_r1 => with_reducible assumption)))
  k_with "call builtin:len" => ((k_here;(with_reducible show wpAny _ _ (call _ [Value.ref _]) _ _ _);k_dflt (refine' lenLst ?N_r2 ?m_r2 ?z_r2 ?_;(case N_r2 => k_asm);(case m_r2 => k_mem);(case z_r2 => first | assumption | omega);k_whole);intro _ _))
  k_with "call builtin:len" => ((k_here;k_dflt (refine' lenTup ?R_r3 ?t_r3 ?z_r3 ?_;(case R_r3 => walk_at "reads");(case t_r3 => assumption);(case z_r3 => first | assumption | omega);k_whole);intro _ _))
  k_with "call builtin:list.pop" => ((k_here;(with_reducible show wpAny _ _ (call _ [Value.ref _]) _ _ _);k_dflt (refine' popLst ?F_r4 ?N_r4 ?U_r4 ?z_r4 ?_;(case F_r4 => k_asm);(case N_r4 => k_asm);(case U_r4 => k_upd);(case z_r4 => first | assumption | omega);k_whole);intro qh' qF' qN'))
  k_with "call builtin:isinstance" => ((k_here;(with_reducible show wpAny _ _ (call _ [_, Value.type "tuple"]) _ _ _);k_dflt (refine' isiTup ?R_r5 ?_ ?_;(case R_r5 => walk_at "reads"));all_goals (intro qhI;(try intro qtkI);(try dsimp only))))
  k_with "call builtin:isinstance" => ((k_here;(with_reducible show wpAny _ _ (call _ [_, Value.type "str"]) _ _ _);k_dflt (refine' isiStr ?R_r6 ?_ ?_;(case R_r6 => walk_at "reads"));all_goals (first | (intro qxI qtI qeI qhI qlI;(try subst qeI);(try dsimp only)) | (intro qhI qtkI;(try dsimp only)))))
  k_with "subscriptTail" => ((k_here;(with_reducible show wpAny _ _ (subscriptTail _ _ _ (Value.int 0 _)) _ _ _);k_dflt (refine' itemB0 ?F_r7 ?R_r7 ?t_r7 ?k_r7 ?_ ?s_r7;(case F_r7 => k_asm);(case R_r7 => with_reducible assumption);(case t_r7 => assumption);(case k_r7 => omega);(case s_r7 => intro _;with_unfolding_all rfl);k_whole);intro qvI qrI;(try dsimp only at qrI);(try (obtain ⟨qtI, qeI⟩ := reads_strE qrI (by with_reducible assumption);subst qeI));(try dsimp only)))
  k_with "subscriptTail" => ((k_here;(with_reducible show wpAny _ _ (subscriptTail _ _ _ (Value.int 1 _)) _ _ _);k_dflt (refine' itemB1 ?F_r8 ?R_r8 ?t_r8 ?k_r8 ?_ ?s_r8;(case F_r8 => k_asm);(case R_r8 => with_reducible assumption);(case t_r8 => assumption);(case k_r8 => omega);(case s_r8 => intro _;with_unfolding_all rfl);k_whole);intro qvI qrI;(try dsimp only at qrI);(try (obtain ⟨qtI, qeI⟩ := reads_strE qrI (by with_reducible assumption);subst qeI));(try dsimp only)))
  k_with "subscriptTail" => ((k_here;(with_reducible show wpAny _ _ (subscriptTail _ _ _ (Value.int 2 _)) _ _ _);k_dflt (refine' itemB2 ?F_r9 ?R_r9 ?t_r9 ?k_r9 ?_ ?s_r9;(case F_r9 => k_asm);(case R_r9 => with_reducible assumption);(case t_r9 => assumption);(case k_r9 => omega);(case s_r9 => intro _;with_unfolding_all rfl);k_whole);intro qvI qrI;(try dsimp only at qrI);(try (obtain ⟨qtI, qeI⟩ := reads_strE qrI (by with_reducible assumption);subst qeI));(try dsimp only)))
  k_with "subscriptTail" => ((k_here;(with_reducible show wpAny _ _ (subscriptTail _ (PySem.Expr.Slice none (some _) none _) (Value.str _ _) _) _ _ _);(k_dflt (refine strCut1 (s := ⟨_, _, _, _, _⟩) (by assumption) (by assumption) ?hsz_r10 ?_));(case hsz_r10 => (rw [sizeLine_eq];omega));intro qh' qt' qk' qF' qN' qkK;(try dsimp only at qkK);(try dsimp only)))
  k_with "subscriptTail Name Slice str ref" => ((k_here;(with_reducible show wpAny _ _ (subscriptTail _ (PySem.Expr.Slice none (some _) none _) (Value.str _ _) _) _ _ _);(k_dflt (refine strCut1 (s := ⟨_, _, _, _, _⟩) (by assumption) (by assumption) ?hsz_r11 ?_));(case hsz_r11 => (rw [sizeLine_eq];omega));intro qh' qt' qk' qF' qN' qkK;(try dsimp only at qkK);(try dsimp only)))
  k_with "subscriptTail" => ((k_here;(with_reducible show wpAny _ _ (subscriptTail _ (PySem.Expr.Slice (some _) none none _) _ (Value.ref _)) _ _ _);(k_dflt (refine' sliceTup1 (s := ⟨_, _, _, _, _⟩) ?F_r12 ?N_r12 ?R_r12 ?t_r12 ?k_r12 ?z_r12 ?_ ?hs_r12 ?hg_r12;(case F_r12 => k_asm);(case N_r12 => k_asm);(case R_r12 => with_reducible assumption);(case t_r12 => assumption);(case k_r12 => omega);(case z_r12 => omega);(case hs_r12 => intro _;with_unfolding_all rfl);(case hg_r12 => intro _ _;with_unfolding_all rfl)));intro qD' qh' qvs' qF' qN' qR' ql1 qe1;(try k_lt ql1);(try dsimp only)))
  k_with "call builtin:list.extend" => ((k_here;(k_dflt (refine' extLst ?F_r13 ?N_r13 ?b_r13 ?U_r13 ?z_r13 ?_;(case F_r13 => k_asm);(case N_r13 => k_asm);(case b_r13 => k_mem);(case U_r13 => intro qk9;k_upd);(case z_r13 => omega)));intro qh' qk' qF' qN';(try dsimp only)))
  k_with "good" => (first | exact good_shaped (by assumption) (by omega) | exact good_shaped (good_filter (by assumption)) (by omega))
  k_with "units" => (first | exact addLt (by assumption) (by decide) | exact addLt1 (c := 3) (by assumption) (by decide) | exact addLt1 (c := 1) (by assumption) (by decide) | exact addLt2 (c := 3) (d := 1) (by assumption) (by decide) | exact addLt2 (c := 3) (d := 3) (by assumption) (by decide) | omega | ((try simp only [Around.deeper_units, units_in1]);omega))
  k_with "compareOp NotEq ref ref" => ((k_here;(with_reducible show wpAny _ _ (compareOp CmpOp.NotEq (Value.ref _) (Value.ref _)) _ _ _);k_dflt (refine' neNil ?F_r16 ?N_r16 ?E_r16 ?RA_r16 ?D_r16 ?a_r16 ?u_r16 ?_;(case F_r16 => k_asm);(case N_r16 => k_asm);(case E_r16 => k_mem);(case D_r16 => k_mem);(case RA_r16 => with_reducible assumption);(case a_r16 => walk_at "good");(case u_r16 => walk_at "units");k_whole);(try dsimp only)))
  k_with "compareOp Eq ref ref" => ((k_here;(with_reducible show wpAny _ _ (compareOp CmpOp.Eq (Value.ref _) (Value.ref _)) _ _ _);k_dflt (refine' eqNil ?F_r17 ?N_r17 ?E_r17 ?RA_r17 ?D_r17 ?a_r17 ?u_r17 ?_;(case F_r17 => k_asm);(case N_r17 => k_asm);(case E_r17 => k_mem);(case D_r17 => k_mem);(case RA_r17 => with_reducible assumption);(case a_r17 => walk_at "good");(case u_r17 => walk_at "units");k_whole);(try dsimp only)))
  k_with "call type:set" => ((k_here;(with_reducible show wpAny _ _ (call (Value.type "set") [Value.ref _]) _ _ _);k_dflt (refine' setStrs ?hh_r18 ?F_r18 ?N_r18 ?D_r18 ?S_r18 ?z_r18 ?_;(case hh_r18 => assumption);(case F_r18 => k_asm);(case N_r18 => k_asm);(case D_r18 => k_mem);(case S_r18 => with_reducible assumption);(case z_r18 => with_reducible assumption));intro qD' qh' qo' qtk' qF' qN' ql1 qsO;(try k_lt ql1);(try dsimp only)))
  k_with "call builtin:sorted" => ((k_here;(with_reducible show wpAny _ _ (call (Value.builtin "sorted") [Value.ref _]) _ _ _);k_dflt (refine' sortedSet ?hh_r19 ?F_r19 ?N_r19 ?D_r19 ?S_r19 ?z_r19 ?_;(case hh_r19 => assumption);(case F_r19 => k_asm);(case N_r19 => k_asm);(case D_r19 => k_mem);(case S_r19 => with_reducible assumption);(case z_r19 => with_reducible assumption));intro qD' qh' qtk' qdr' qvs' qss' qk' qF' qN' ql1 qsA qpA qsS;(try k_lt ql1);(try dsimp only)))
  k_with "compareOp Eq ref ref" => ((k_here;(with_reducible show wpAny _ _ (compareOp CmpOp.Eq (Value.ref _) (Value.ref _)) _ _ _);k_dflt (refine' eqNames ?F_r20 ?N_r20 ?D_r20 ?E_r20 ?SD_r20 ?SE_r20 ?p_r20 ?s_r20 ?ok_r20 ?z_r20 ?u_r20 ?_;(case F_r20 => k_asm);(case N_r20 => k_asm);(case D_r20 => k_mem);(case E_r20 => k_mem);(case SD_r20 => with_reducible assumption);(case SE_r20 => with_reducible assumption);(case p_r20 => with_reducible assumption);(case s_r20 => with_reducible assumption);(case ok_r20 => with_reducible assumption);(case z_r20 => with_reducible assumption);(case u_r20 => walk_at "units");k_whole);(try dsimp only)))
  k_with "room" => (first | exact addLt (by assumption) (by decide) | exact addLt1 (c := 1) (by assumption) (by decide) | exact addLt2 (c := 1) (d := 1) (by assumption) (by decide) | omega | ((try simp only [depth_deeper, depth_in1]);omega))
  k_with "call ref" => ((k_here;k_dflt (refine' plain_ok ?R_r22 ?z_r22 _ _ _ _ _ _ _ _ _ _ ?h1_r22 ?h2_r22 ?h3_r22 ?h4_r22 ?h5_r22 ?h6_r22 ?B_r22 ?F_r22 ?X_r22 ?T_r22 ?_;(case R_r22 => walk_at "reads");(case z_r22 => first | assumption | omega | (simp only [sz, szAll];omega));(case h1_r22 => assumption);(case h2_r22 => first | exact Around.frames_deeper (Below.stack (by assumption)) | assumption);(case h3_r22 => exact rfl);(case h4_r22 => exact rfl);(case h5_r22 => walk_at "room");(case h6_r22 => walk_at "units");(case B_r22 => assumption);(case F_r22 => assumption);(case X_r22 => assumption);(case T_r22 => assumption));intro qv9 qh' qtk' qkK;(try dsimp only at qkK);(rename News _ _ _ _ => qN9);(have qN' := Keep.news qkK qN9);(rename Fr _ _ _ _ => qF9);(have qF9k := fun (_ : True) => Keep.fr qkK qF9);intro qhF' qhP';(have qF' := qF9k True.intro);clear qF9k;(try subst qhP');(try dsimp only)))
  k_with "call ref" => ((k_here;k_dflt (refine' places_ok ?R_r23 ?g_r23 ?sm_r23 _ _ _ _ _ _ _ _ _ _ ?h1_r23 ?h2_r23 ?h3_r23 ?h4_r23 ?h5_r23 ?h6_r23 ?B_r23 ?F_r23 ?X_r23 ?T_r23 ?_;(case R_r23 => walk_at "reads");(case g_r23 => first | assumption | exact good_kids (by assumption) _ (kid_mem (by omega)));(case sm_r23 => assumption);(case h1_r23 => assumption);(case h2_r23 => first | exact Around.frames_deeper (Below.stack (by assumption)) | assumption);(case h3_r23 => exact rfl);(case h4_r23 => exact rfl);(case h5_r23 => walk_at "room");(case h6_r23 => walk_at "units");(case B_r23 => assumption);(case F_r23 => assumption);(case X_r23 => assumption);(case T_r23 => assumption));intro qv9 qh' qtk' qdr' qkK;(try dsimp only at qkK);(rename News _ _ _ _ => qN9);(have qN' := Keep.news qkK qN9);(rename Fr _ _ _ _ => qF9);(have qF9k := fun (_ : True) => Keep.fr qkK qF9);intro qhF' qhP';(have qF' := qF9k True.intro);clear qF9k;(try subst qhP');(try dsimp only)))
  k_with "unpackItems ref" => ((k_here;k_dflt (refine' unpackTup ?F_r24 ?N_r24 ?hh_r24 ?ht_r24 ?hn_r24 ?_;(case F_r24 => k_asm);(case N_r24 => k_asm);(case hh_r24 => assumption);(case ht_r24 => kun_tup);(case hn_r24 => exact rfl);k_whole);intro qh' qF' qN' qkK;(try dsimp only)))
  k_with "go2" => (repeat' ((fail_if_success (with_reducible show Exists _));(fail_if_success (with_reducible show _ ∧ Keeps _ _));(fail_if_success (with_reducible show wpAny _ _ (eval (PySem.Expr.ListComp _ _ _ _) _) _ _ _));(fail_if_success (with_reducible show wpAny _ _ (exec (Stmt.Assign _ (PySem.Expr.ListComp _ _ _ _) _) _) _ _ _));(fail_if_success (with_reducible show wpAny _ _ (exec (Stmt.For _ _ _ _ _) _) _ _ _));first | (k_unfold;(try dsimp only)) | walk1 | (dsimp only;walk1) | fail "no step"))
  k_with "call ref" => ((k_here;k_dflt (refine' form_ok ?R_r26 ?g_r26 ?z_r26 ?sm_r26 _ _ _ _ _ _ _ _ _ _ ?h1_r26 ?h2_r26 ?h3_r26 ?h4_r26 ?h5_r26 ?h6_r26 ?B_r26 ?F_r26 ?X_r26 ?T_r26 ?_;(case R_r26 => walk_at "reads");(case g_r26 => assumption);(case z_r26 => assumption);(case sm_r26 => assumption);(case h1_r26 => assumption);(case h2_r26 => first | exact Around.frames_deeper (Below.stack (by assumption)) | assumption);(case h3_r26 => exact rfl);(case h4_r26 => exact rfl);(case h5_r26 => walk_at "room");(case h6_r26 => walk_at "units");(case B_r26 => assumption);(case F_r26 => assumption);(case X_r26 => assumption);(case T_r26 => assumption));intro qv9 qh' qtk' qdr' qkK;(try dsimp only at qkK);(rename News _ _ _ _ => qN9);(have qN' := Keep.news qkK qN9);(rename Fr _ _ _ _ => qF9);(have qF9k := fun (_ : True) => Keep.fr qkK qF9);intro qhF' qhP';(have qF' := qF9k True.intro);clear qF9k;(try subst qhP');(try dsimp only)))
  k_with "call ref" => ((k_here;k_dflt (refine' parts_ok ?R_r27 ?t_r27 ?l_r27 ?o_r27 _ _ _ _ _ _ _ _ _ _ ?h1_r27 ?h2_r27 ?h3_r27 ?h4_r27 ?h5_r27 ?h6_r27 ?B_r27 ?F_r27 ?X_r27 ?T_r27 ?_;(case R_r27 => walk_at "reads");(case t_r27 => assumption);(case l_r27 => assumption);(case o_r27 => assumption);(case h1_r27 => assumption);(case h2_r27 => first | exact Around.frames_deeper (Below.stack (by assumption)) | assumption);(case h3_r27 => exact rfl);(case h4_r27 => exact rfl);(case h5_r27 => walk_at "room");(case h6_r27 => walk_at "units");(case B_r27 => assumption);(case F_r27 => assumption);(case X_r27 => assumption);(case T_r27 => assumption));intro qv9 qh' qtk' qkK;(try dsimp only at qkK);(rename News _ _ _ _ => qN9);(have qN' := Keep.news qkK qN9);(rename Fr _ _ _ _ => qF9);(have qF9k := fun (_ : True) => Keep.fr qkK qF9);intro qhF' qhP';(have qF' := qF9k True.intro);clear qF9k;(obtain ⟨qT9, qe9, qo9, qn9⟩ := qhP';subst qe9);(try dsimp only at qn9);(have qN'' := newsAdd qF9 qN' qo9 qn9);(have qne9 := newsNe qN9 qn9);clear qN';(simp only [List.forall_mem_cons, List.not_mem_nil, false_implies, implies_true, and_true] at qne9);(try dsimp only)))
  k_with "assign Tuple" => ((k_here;k_dflt (refine' asgPair ?F_r28 ?N_r28 ?hh_r28 ?ht_r28 ?_;(case F_r28 => k_asm);(case N_r28 => k_asm);(case hh_r28 => assumption);(case ht_r28 => kun_tup);k_whole);intro qh' qF' qN' qkK;(try dsimp only)))
  k_with "go3" => (repeat' ((fail_if_success (with_reducible show Exists _));(fail_if_success (with_reducible show _ ∧ Keeps _ _));(fail_if_success (with_reducible show wpAny _ _ (exec (Stmt.Assign _ (PySem.Expr.ListComp _ _ _ _) _) _) _ _ _));(fail_if_success (with_reducible show wpAny _ _ (exec (Stmt.For _ _ _ _ _) _) _ _ _));first | (k_unfold;(try dsimp only)) | walk1 | (dsimp only;walk1) | fail "no step"))
  k_with "call type:enumerate" => ((k_here;(with_reducible show wpAny _ _ (call (Value.type "enumerate") [Value.ref _]) _ _ _);k_dflt (refine' enumT ?F_r30 ?N_r30 ?m_r30 ?_;(case F_r30 => k_asm);(case N_r30 => k_asm);(case m_r30 => k_mem));intro qe qh' qF' qN' qkE;(try dsimp only)))
  k_with "go4" => (repeat' ((fail_if_success (with_reducible show Exists _));(fail_if_success (with_reducible show _ ∧ Keeps _ _));(fail_if_success (with_reducible show wpAny _ _ (eval (PySem.Expr.ListComp _ _ _ _) _) _ _ _));(fail_if_success (with_reducible show wpAny _ _ (exec (Stmt.Assign _ (PySem.Expr.ListComp _ _ _ _) _) _) _ _ _));first | (k_unfold;(try dsimp only)) | walk1 | (dsimp only;walk1) | fail "no step"))
  k_with "call ref" => ((k_here;k_dflt (refine' order_ok ?R_r32 ?g_r32 ?z_r32 ?sm_r32 ?hc_r32 _ _ _ _ _ _ _ _ _ _ ?h1_r32 ?h2_r32 ?h3_r32 ?h4_r32 ?h5_r32 ?h6_r32 ?B_r32 ?F_r32 ?X_r32 ?T_r32 ?_;(case R_r32 => walk_at "reads");(case g_r32 => assumption);(case z_r32 => assumption);(case sm_r32 => assumption);(case hc_r32 => assumption);(case h1_r32 => assumption);(case h2_r32 => first | exact Around.frames_deeper (Below.stack (by assumption)) | assumption);(case h3_r32 => exact rfl);(case h4_r32 => exact rfl);(case h5_r32 => walk_at "room");(case h6_r32 => walk_at "units");(case B_r32 => assumption);(case F_r32 => assumption);(case X_r32 => assumption);(case T_r32 => assumption));intro qv9 qh' qtk' qdr' qkK;(try dsimp only at qkK);(rename News _ _ _ _ => qN9);(have qN' := Keep.news qkK qN9);(rename Fr _ _ _ _ => qF9);(have qF9k := fun (_ : True) => Keep.fr qkK qF9);intro qhF' qhP';(have qF' := qF9k True.intro);clear qF9k;(obtain ⟨qD9, qT9, qP9, qk9, qe9, qoD9, qoT9, qoP9, qnD9, qnT9, qnP9⟩ := qhP';subst qe9);(try dsimp only at qnD9 qnT9 qnP9);(have qNp := newsAdd qF9 qN' qoP9 qnP9);(have qNt := newsAdd qF9 qNp qoT9 qnT9);(have qNd := newsAdd qF9 qNt qoD9 qnD9);(have qneP := newsNe qN9 qnP9);(have qneT := newsNe qN9 qnT9);(have qneD := newsNe qN9 qnD9);(have qnePT := ne3 qoD9 qoT9 qoP9);clear qN' qNp qNt;(simp only [List.forall_mem_cons, List.not_mem_nil, false_implies, implies_true, and_true] at qneP qneT qneD);(try dsimp only)))
  k_with "call ref" => ((k_here;k_dflt (refine' want_raises ?R_r33 ?g_r33 ?z_r33 ?sm_r33 ?form_r33 ?P_r33 _ _ _ _ _ _ _ _ _ _ ?h1_r33 ?h2_r33 ?h3_r33 ?h4_r33 ?h5_r33 ?h6_r33 ?B_r33 ?F_r33 ?X_r33 ?T_r33 ?KD_r33 ?_;(case R_r33 => walk_at "reads");(case g_r33 => assumption);(case z_r33 => assumption);(case sm_r33 => assumption);(case form_r33 => assumption);(case P_r33 => exact ⟨_, News.get (by k_asm) (by k_mem), rfl, _, rfl⟩);(case h1_r33 => assumption);(case h2_r33 => first | exact Around.frames_deeper (Below.stack (by assumption)) | assumption);(case h3_r33 => exact rfl);(case h4_r33 => exact rfl);(case h5_r33 => walk_at "room");(case h6_r33 => walk_at "units");(case B_r33 => assumption);(case F_r33 => assumption);(case X_r33 => assumption);(case T_r33 => assumption);(case KD_r33 => exact ktsKeep (by assumption) (Fr.keep (by k_asm))));intro qe9 qh' qtk' qdr' qth9;(try dsimp only at qth9);(try dsimp only)))
  k_with "k_ne" => ((refine neN ?_;(try dsimp only);first | assumption | exact Ne.symm (by assumption) | exact Nat.ne_of_lt (by assumption) | exact Nat.ne_of_gt (by assumption) | exact (And.left (by assumption)) | exact (Ne.symm (And.left (by assumption))) | exact (Nat.ne_of_lt (And.left (by assumption))) | exact (Nat.ne_of_gt (And.left (by assumption))) | exact (And.left (And.right (by assumption))) | exact (Ne.symm (And.left (And.right (by assumption)))) | exact (Nat.ne_of_lt (And.left (And.right (by assumption)))) | exact (Nat.ne_of_gt (And.left (And.right (by assumption)))) | exact (And.right (by assumption)) | exact (Ne.symm (And.right (by assumption))) | exact (Nat.ne_of_lt (And.right (by assumption))) | exact (Nat.ne_of_gt (And.right (by assumption))) | exact (And.left (And.right (And.right (by assumption)))) | exact (Ne.symm (And.left (And.right (And.right (by assumption))))) | exact (Nat.ne_of_lt (And.left (And.right (And.right (by assumption))))) | exact (Nat.ne_of_gt (And.left (And.right (And.right (by assumption))))) | exact (And.right (And.right (by assumption))) | exact (Ne.symm (And.right (And.right (by assumption)))) | exact (Nat.ne_of_lt (And.right (And.right (by assumption)))) | exact (Nat.ne_of_gt (And.right (And.right (by assumption)))) | exact (And.left (And.right (And.right (And.right (by assumption))))) | exact (Ne.symm (And.left (And.right (And.right (And.right (by assumption)))))) | exact (Nat.ne_of_lt (And.left (And.right (And.right (And.right (by assumption)))))) | exact (Nat.ne_of_gt (And.left (And.right (And.right (And.right (by assumption)))))) | exact (And.right (And.right (And.right (by assumption)))) | exact (Ne.symm (And.right (And.right (And.right (by assumption))))) | exact (Nat.ne_of_lt (And.right (And.right (And.right (by assumption))))) | exact (Nat.ne_of_gt (And.right (And.right (And.right (by assumption))))) | exact (And.left (And.right (And.right (And.right (And.right (by assumption)))))) | exact (Ne.symm (And.left (And.right (And.right (And.right (And.right (by assumption))))))) | exact (Nat.ne_of_lt (And.left (And.right (And.right (And.right (And.right (by assumption))))))) | exact (Nat.ne_of_gt (And.left (And.right (And.right (And.right (And.right (by assumption))))))) | exact (And.right (And.right (And.right (And.right (by assumption))))) | exact (Ne.symm (And.right (And.right (And.right (And.right (by assumption)))))) | exact (Nat.ne_of_lt (And.right (And.right (And.right (And.right (by assumption)))))) | exact (Nat.ne_of_gt (And.right (And.right (And.right (And.right (by assumption)))))) | exact (And.left (And.right (And.right (And.right (And.right (And.right (by assumption))))))) | exact (Ne.symm (And.left (And.right (And.right (And.right (And.right (And.right (by assumption)))))))) | exact (Nat.ne_of_lt (And.left (And.right (And.right (And.right (And.right (And.right (by assumption)))))))) | exact (Nat.ne_of_gt (And.left (And.right (And.right (And.right (And.right (And.right (by assumption)))))))) | exact (And.right (And.right (And.right (And.right (And.right (by assumption)))))) | exact (Ne.symm (And.right (And.right (And.right (And.right (And.right (by assumption))))))) | exact (Nat.ne_of_lt (And.right (And.right (And.right (And.right (And.right (by assumption))))))) | exact (Nat.ne_of_gt (And.right (And.right (And.right (And.right (And.right (by assumption))))))) | exact (And.left (And.right (And.right (And.right (And.right (And.right (And.right (by assumption)))))))) | exact (Ne.symm (And.left (And.right (And.right (And.right (And.right (And.right (And.right (by assumption))))))))) | exact (Nat.ne_of_lt (And.left (And.right (And.right (And.right (And.right (And.right (And.right (by assumption))))))))) | exact (Nat.ne_of_gt (And.left (And.right (And.right (And.right (And.right (And.right (And.right (by assumption))))))))) | exact (And.right (And.right (And.right (And.right (And.right (And.right (by assumption))))))) | exact (Ne.symm (And.right (And.right (And.right (And.right (And.right (And.right (by assumption)))))))) | exact (Nat.ne_of_lt (And.right (And.right (And.right (And.right (And.right (And.right (by assumption)))))))) | exact (Nat.ne_of_gt (And.right (And.right (And.right (And.right (And.right (And.right (by assumption)))))))) | omega))
  k_with "binaryOp Add ref ref" => ((k_here;(with_reducible show wpAny _ _ (binaryOp _ (Value.ref _) (Value.ref _)) _ _ _);k_dflt (refine' addLst ?F_r35 ?N_r35 ?a_r35 ?b_r35 ?z_r35 ?_;(case F_r35 => k_asm);(case N_r35 => k_asm);(case a_r35 => repeat (first | assumption | exact List.Mem.head _ | refine List.Mem.tail _ ?_));(case b_r35 => repeat (first | assumption | exact List.Mem.head _ | refine List.Mem.tail _ ?_));(case z_r35 => assumption));intro qD' qh' qF' qN' qne';(try dsimp only)))
  k_with "go8" => (repeat' ((fail_if_success (with_reducible show Exists _));(fail_if_success (with_reducible show _ = Flow.next ∧ _));(fail_if_success (with_reducible show wpAny _ _ (exec (Stmt.Assign _ (PySem.Expr.ListComp _ _ _ _) _) _) _ _ _));(fail_if_success (with_reducible show wpAny _ _ (pyIter _) _ _ _));(fail_if_success (with_reducible show wpAny _ _ (exec (Stmt.For _ _ _ _ _) _) _ _ _));first | (k_unfold;(try dsimp only)) | walk1 | (dsimp only;walk1) | fail "no step"))
  trivial
noncomputable def rowStep (es ds : List PyData) : List PyData := es.flatMap fun a => ds.map fun b => .tuple (kids a ++ [b])
noncomputable def edgeD (ds : List PyData) : Nat → List PyData
  | 0 => [.tuple []]
  | i + 1 => rowStep (edgeD ds i) ds
noncomputable def foundD (ds : List PyData) : Nat → List PyData
  | 0 => [.tuple []]
  | i + 1 => foundD ds i ++ edgeD ds (i + 1)
noncomputable def RowsJ (g : Heap) (L Tt : Addr) (ds : List PyData) (i : Nat) (m : Str → Option Value) (news : List (Addr × Obj)) : Prop :=
  ∃ Fd Ed kf ke wf we Ts oc, m (Str.ofString "found") = some (.ref Fd) ∧ m (Str.ofString "edge") = some (.ref Ed) ∧ (Fd, listOf wf.toArray kf) ∈ news ∧ (Ed, listOf we.toArray ke) ∈ news ∧ (L + 1, oc) ∈ news ∧ oc.data = .cell (some (.ref Tt)) ∧
    (∀ p ∈ Ts, p ∈ news) ∧ RdTs g Ts wf (foundD ds i) ∧ RdTs g Ts we (edgeD ds i)
theorem len_rowStep (es ds : List PyData) : (rowStep es ds).length = es.length * ds.length := by
  unfold rowStep
  induction es with
  | nil => simp
  | cons a r ih => rw [List.flatMap_cons, List.length_append, ih, List.length_map, List.length_cons, Nat.succ_mul]; omega
theorem len_edge {ds : List PyData} (h : ds.length = 5) {i : Nat} (hi : i < 3) : (edgeD ds i).length ≤ 25 ∧ (foundD ds i).length ≤ 31 := by
  match i, hi with
  | 0, _ => simp [edgeD, foundD]
  | 1, _ => simp [edgeD, foundD, len_rowStep, h]
  | 2, _ => simp [edgeD, foundD, len_rowStep, h]
theorem edge_tup {ds : List PyData} {i : Nat} {a : PyData} (h : a ∈ edgeD ds i) : isTup a = true ∧ (kids a).length = i := by
  induction i generalizing a with
  | zero => simp [edgeD] at h; subst h; exact ⟨rfl, rfl⟩
  | succ i ih =>
    simp only [edgeD, rowStep, List.mem_flatMap, List.mem_map] at h
    obtain ⟨b, hb, c, _, rfl⟩ := h
    exact ⟨rfl, by show (kids b ++ [c]).length = i + 1; rw [List.length_append, (ih hb).2]; rfl⟩
theorem rowsJ_start {g : Heap} {L Tt Fd Ed D1 D2 : Addr} {ds : List PyData} {m : Str → Option Value} {news : List (Addr × Obj)} {oc : Obj} (mf : m (Str.ofString "found") = some (.ref Fd)) (me : m (Str.ofString "edge") = some (.ref Ed)) (hF : (Fd, listOf #[.ref D2] 0) ∈ news) (hE : (Ed, listOf #[.ref D1] 0) ∈ news) (hoc : (L + 1, oc) ∈ news) (hcl : oc.data = .cell (some (.ref Tt)))
    (h1 : (D1, ({ cls := .type "tuple", data := .seq #[] } : Obj)) ∈ news) (h2 : (D2, ({ cls := .type "tuple", data := .seq #[] } : Obj)) ∈ news) : RowsJ g L Tt ds 0 m news := by
  refine ⟨Fd, Ed, 0, 0, [.ref D2], [.ref D1], [(D1, { cls := .type "tuple", data := .seq #[] }), (D2, { cls := .type "tuple", data := .seq #[] })], oc, mf, me, hF, hE, hoc, hcl, ?_, ?_, ?_⟩
  · intro p hp
    rcases List.mem_cons.mp hp with rfl | hp
    · exact h1
    · rw [List.mem_singleton.mp hp]; exact h2
  · intro h k kt
    exact ReadsAll.cons (as := []) (.tuple (kt _ (.tail _ (.head _))) rfl rfl .nil) .nil
  · intro h k kt
    exact ReadsAll.cons (as := []) (.tuple (kt _ (.head _)) rfl rfl .nil) .nil
namespace rows_ok_n
noncomputable def Wk (w : World) (mean : ExcName → Option Value) (mg : Str → Option Value) (mb : Str → Option Value) (s : Shared) (A : Around) (base : Heap) (outer : List Env) (L' : Addr) (h₁ : Heap) : Prop := ∀ (Tt : Addr) (kT : Nat) (vs : List Value) (ds : List PyData) (hT : s.heap.get? Tt = some (listOf vs.toArray kT)) (RA : ReadsAll s.heap vs ds []) (hlen : ds.length = 5), EntC (PostF s (fun h' r => ∃ Rw ws k, r = .ref Rw ∧ h'.get? Rw = some (listOf ws.toArray k) ∧ s.heap.get? Rw = none ∧ ReadsAll h' ws (foundD ds 3) [])) w mean mg mb s A base outer L' h₁ 3 300 [(Str.ofString "things", .ref Tt)] (envAtC 224 L') (stAt 224)
theorem inhab : Nonempty ((World) × (ExcName → Option Value) × (Str → Option Value) × (Str → Option Value) × (Shared) × (Around) × (Heap) × (List Env) × (Addr) × (Heap)) := ⟨((aWorld 1), (fun _ => none), (fun _ => none), (fun _ => none), ({}), ({}), ({}), ([]), (0), ({}))⟩
noncomputable def cc : (World) × (ExcName → Option Value) × (Str → Option Value) × (Str → Option Value) × (Shared) × (Around) × (Heap) × (List Env) × (Addr) × (Heap) := pickA inhab fun c => Wk c.1 c.2.1 c.2.2.1 c.2.2.2.1 c.2.2.2.2.1 c.2.2.2.2.2.1 c.2.2.2.2.2.2.1 c.2.2.2.2.2.2.2.1 c.2.2.2.2.2.2.2.2.1 c.2.2.2.2.2.2.2.2.2
@[irreducible] noncomputable def w : World := cc.1
@[irreducible] noncomputable def mean : ExcName → Option Value := cc.2.1
@[irreducible] noncomputable def mg : Str → Option Value := cc.2.2.1
@[irreducible] noncomputable def mb : Str → Option Value := cc.2.2.2.1
@[irreducible] noncomputable def s : Shared := cc.2.2.2.2.1
@[irreducible] noncomputable def A : Around := cc.2.2.2.2.2.1
@[irreducible] noncomputable def base : Heap := cc.2.2.2.2.2.2.1
@[irreducible] noncomputable def outer : List Env := cc.2.2.2.2.2.2.2.1
@[irreducible] noncomputable def L' : Addr := cc.2.2.2.2.2.2.2.2.1
@[irreducible] noncomputable def h₁ : Heap := cc.2.2.2.2.2.2.2.2.2
theorem here : Wk w mean mg mb s A base outer L' h₁ := by
  (have hFill : ∀ P : Params, (Mine.hd.heap_39 P = Mine.hd.heap_39 P) ∧ PySem.Challenge.rw_rg0113_01 = PySem.Challenge.rw_rg0113_01 := (by k_fill; exact fillK); clear hFill)
  unfold Wk
  intro Tt kT vs ds hT RA hlen
  refine lit_atC (f := 224) (L := L') (p := EntC (PostF s (fun h' r => ∃ Rw ws k, r = .ref Rw ∧ h'.get? Rw = some (listOf ws.toArray k) ∧ s.heap.get? Rw = none ∧ ReadsAll h' ws (foundD ds 3) [])) w mean mg mb s A base outer L' h₁ 3 300 [(Str.ofString "things", .ref Tt)]) (by k_is) ?_
  intro tk₁ cells hh hd hu F1 B1 X1 T1 N1 Y1
  (try dsimp only)
  k_cells Y1
  walk_at "go8"; all_goals (try k_data)
  all_goals (try dsimp only)
  rename News _ _ _ _ => N0
  rename Fr _ _ _ _ => F0
  k_dflt (refine' forCore (g := s.heap) (L := L') 3 (fun i v => ∃ t, v = .int ((i : Nat) : Int) t) (fun _ => True) (RowsJ s.heap L' Tt ds) ?n1 ?n2; (case n1 => intro _; with_unfolding_all rfl))
  intro R1 close1
  walk_at "go8"; all_goals (try k_data)
  all_goals (try dsimp only)
  refine srcRange (n := 3) (s := ⟨_, _, _, _, _⟩) (by assumption) (by assumption) (by decide) (by decide) (by assumption) (by assumption) fun I fp St h9 k9 ls => ?_
  refine close1 _ I fp St _ _ ls ?_ (fun _ _ _ _ _ _ _ => trivial) ?_ ?_
  · exact rowsJ_start rfl rfl (by k_mem) (by k_mem) (by k_mem) (by assumption) (by k_mem) (by k_mem)
  · rintro i v m₁ news₁ oI h tk dr R9 close9 hi ⟨t, rfl⟩ ⟨Fd, Ed, kf, ke, wf, we, Ts, oc, mf, me, hFd, hEd, hoc, hcl, hsub, rf, re⟩ off F N hIc _
    refine wpAny_of_eq (show letOwnedTupleGo _ _ _ = pure () from rfl) ?_
    have F := frPin2 F mf me
    walk_at "go8"; all_goals (try k_data)
    all_goals (try dsimp only)
    rename Fr _ _ _ _ => F1
    rename News _ _ _ _ => N1
    k_dflt (refine' comp2A (g := s.heap) (Ee := Ed) (Tt := Tt) (vsE := we) (vsT := vs) (dsE := edgeD ds i) (dsT := ds) (cl := [(Str.ofString "things", L' + 1)]) (fun a b => .tuple (kids a ++ [b])) ?q1 ?q2 ?q3 ?q4 ?q5 ?q6 ?q7 ?q8 ?q9 ?q10 ?q11 ?q12 ?q13 ?q14 F1 N1 ?q15 ?q16 ?q17 ?q18 ?q19 ?q20 ?q21 ?q22 ?q23; (case q1 => assumption); (case q2 => with_unfolding_all rfl); (case q3 => exact rfl); (case q4 => decide); (case q5 => exact rfl); (case q6 => decide); (case q7 => decide); (case q8 => decide); (case q9 => decide); (case q10 => intro _; with_unfolding_all rfl); (case q11 => intro _ _; with_unfolding_all rfl); (case q12 => with_unfolding_all rfl); (case q13 => with_unfolding_all rfl); (case q14 => exact rfl))
    case q15 => exact (N1 _ (.tail _ hEd)).1
    case q16 => exact F1.keep _ _ hT
    case q17 => exact re _ F1.keep fun p hp => (N1 _ (.tail _ (hsub p hp))).1
    case q18 => exact readsAll_tk (Keep.tk F1.keep) RA
    case q19 => rw [readsAll_len (re _ F1.keep fun p hp => (N1 _ (.tail _ (hsub p hp))).1), readsAll_len RA, hlen]; have := (len_edge hlen hi).1; omega
    case q20 =>
      walk_at "go8"; all_goals (try k_data)
      all_goals (try dsimp only)
      all_goals (first | exact ⟨rfl, rfl⟩ | skip)
    case q21 =>
      intro C h2 tk2 kk2
      dsimp only at kk2
      exact kcf_cell (Keep.news kk2 N1) rfl (.tail _ hoc) hcl ⟨rfl, rfl⟩
    case q22 =>
      intro C h2 tk2 m₃ a b da db hda hdb ra rb kk2 hn ma mb
      dsimp only at kk2 ra rb
      obtain ⟨ht, hl⟩ := edge_tup hda
      rw [kids_tup ht] at ra
      refine wpAny_BinOp (ldVarK (s := ⟨_, _, _, _, _⟩) hn ma ?_ rfl (by with_unfolding_all rfl) (by decide))
      refine tup1R (s := ⟨_, _, _, _, _⟩) hn mb (reads_tk' (Keep.tk kk2) rb) (fun y h4 k4 ry => ?_) rfl (by with_unfolding_all rfl) (by decide)
      refine addTupR (s := ⟨_, _, _, _, _⟩) (reads_tk' (Keep.tk (Keep.trans kk2 k4)) ra) ry (by rw [hl, List.length_singleton]; omega) fun y2 h5 k5 ry2 => ?_
      exact ⟨h5, _, rfl, Keep.trans k4 k5, ry2⟩
    case q23 =>
      intro D h2 tk2 ys k2 kk2 nD F2 N2 r2
      have NT := newsJoin N2 (news_tups F2)
      have neD : D ≠ I := by rintro rfl; have := (N1 _ (.head _)).1; rw [this] at nD; cases nD
      have rT := RdTs.of_tups F2.keep r2
      have cT := alltup_tups s.heap h2
      generalize tups s.heap h2 = Tn at NT rT cT
      have F2 := frPin2 (x := Str.ofString "found") (y := Str.ofString "edge") (v := .ref Fd) (u := .ref D) F2 rfl rfl
      have hz9 : wf.length + ys.length ≤ 2 ^ 20 := by
        have e1 := readsAll_len (rf _ F1.keep fun p hp => (N1 _ (.tail _ (hsub p hp))).1)
        have e2 := readsAll_len r2
        have e3 := len_rowStep (edgeD ds i) ds
        unfold rowStep at e3
        have := len_edge hlen hi
        have e4 : (edgeD ds i).length * ds.length ≤ 25 * 5 := by rw [hlen]; omega
        omega
      rw [List.cons_append, List.cons_append] at NT
      have hFd2 : (Fd, listOf wf.toArray kf) ∈ news₁ ++ Tn := List.mem_append_left _ hFd
      clear N2
      walk_at "go8"; all_goals (try k_data)
      all_goals (try dsimp only)
      rename Fr _ _ _ _ => F5
      rename News _ _ _ _ => N5
      rename (∀ p ∈ _, @Ne Nat _ _) => ne5
      refine close9 _ _ _ _ _ F5 (newsPull N5) (fun p hp => ?_) ?_
      · rcases List.mem_cons.mp hp with rfl | hp
        · exact Ne.symm (ne5 _ (.tail _ (.head _)))
        · rcases List.mem_cons.mp hp with rfl | hp
          · exact neD
          · rcases List.mem_append.mp hp with hp | hp
            · exact off p hp
            · exact tsNe N5 (.tail _ (.tail _ (.head _))) (fun q hq => .tail _ (.tail _ (.tail _ (List.mem_append_right _ hq)))) cT hIc p hp
      · refine ⟨_, _, _, _, _, _, Ts ++ Tn, oc, rfl, rfl, .head _, .tail _ (.head _), .tail _ (.tail _ (List.mem_append_left _ hoc)), hcl, fun p hp => ?_, ?_, ?_⟩
        · rcases List.mem_append.mp hp with hp | hp
          · exact .tail _ (.tail _ (List.mem_append_left _ (hsub p hp)))
          · exact .tail _ (.tail _ (List.mem_append_right _ hp))
        · exact RdTs.app (rf.mono fun p hp => List.mem_append_left _ hp) (rT.mono fun p hp => List.mem_append_right _ hp)
        · exact rT.mono fun p hp => List.mem_append_right _ hp
  · rintro h tk dr m' news' F N ⟨Fd, Ed, kf, ke, wf, we, Ts, oc, mf, me, hFd, hEd, hoc, hcl, hsub, rf, re⟩
    have F := frPin2 F mf me
    walk_at "go8"; all_goals (try k_data)
    all_goals (try dsimp only)
    exact ⟨_, h, tk, dr, rfl, F.keep, rfl, Fd, wf, kf, rfl, (N _ hFd).1, (N _ hFd).2.2, rf h F.keep (fun p hp => (N _ (hsub p hp)).1)⟩
theorem all : ∀ c : (World) × (ExcName → Option Value) × (Str → Option Value) × (Str → Option Value) × (Shared) × (Around) × (Heap) × (List Env) × (Addr) × (Heap), Wk c.1 c.2.1 c.2.2.1 c.2.2.2.1 c.2.2.2.2.1 c.2.2.2.2.2.1 c.2.2.2.2.2.2.1 c.2.2.2.2.2.2.2.1 c.2.2.2.2.2.2.2.2.1 c.2.2.2.2.2.2.2.2.2 := pickA_all (h := inhab) (p := fun c => Wk c.1 c.2.1 c.2.2.1 c.2.2.2.1 c.2.2.2.2.1 c.2.2.2.2.2.1 c.2.2.2.2.2.2.1 c.2.2.2.2.2.2.2.1 c.2.2.2.2.2.2.2.2.1 c.2.2.2.2.2.2.2.2.2) (by with_unfolding_all exact @here)
end rows_ok_n
theorem rows_ok {w : World} {mean : ExcName → Option Value} {mg mb : Str → Option Value} {s : Shared} {Tt : Addr} {kT : Nat} {vs : List Value} {ds : List PyData} (hT : s.heap.get? Tt = some (listOf vs.toArray kT)) (RA : ReadsAll s.heap vs ds []) (hlen : ds.length = 5) :
    Pure w mean mg mb 224 [.ref Tt] 3 300 s (fun h' r => ∃ Rw ws k, r = .ref Rw ∧ h'.get? Rw = some (listOf ws.toArray k) ∧ s.heap.get? Rw = none ∧ ReadsAll h' ws (foundD ds 3) []) := by
  (have hFill : ∀ P : Params, (Mine.hd.heap_39 P = Mine.hd.heap_39 P) ∧ PySem.Challenge.rw_rg0113_01 = PySem.Challenge.rw_rg0113_01 := (by k_fill; exact fillK); clear hFill)
  k_dflt (refine' pure_enterC [(Str.ofString "things", .ref Tt)] ?k6 ?k7 ?k9 ?kB ?kD (by decide) ?c2 ?c3 ?c4 ?_; (case k6 => k_is); (case k7 => k_is); (case k9 => exact BindsTo.of_eq rfl); (case kB => exact rfl); (case kD => decide +kernel); (case c2 => exact rfl); (case c3 => exact rfl); (case c4 => exact rfl))
  intro A base outer L' h₁ tk₁ cells hh hd hu F1 B1 X1 T1 N1 Y1
  exact rows_ok_n.all (w, mean, mg, mb, s, A, base, outer, L', h₁) Tt kT vs ds hT RA hlen tk₁ cells hh hd hu F1 B1 X1 T1 N1 Y1
end
section
theorem reg_papers0 : True := by
  k_with_none
  k_with "go" => (repeat' ((fail_if_success (with_reducible show Exists _));(fail_if_success (with_reducible show _ ∧ Keeps _ _));(fail_if_success (with_reducible show wpAny _ _ (eval (PySem.Expr.ListComp _ _ _ _) _) _ _ _));(fail_if_success (with_reducible show wpAny _ _ (exec (Stmt.Assign _ (PySem.Expr.ListComp _ _ _ _) _) _) _ _ _));(fail_if_success (with_reducible show wpAny _ _ (exec (Stmt.While _ _ _ _) _) _ _ _));(fail_if_success (with_reducible show wpAny _ _ (exec (Stmt.For _ _ _ _ _) _) _ _ _));first | (k_unfold;(try dsimp only)) | walk1 | (dsimp only;walk1) | fail "no step"))
  k_with "reads" => (first | with_reducible assumption | exact Reads.keeps (Fr.keep (by k_asm)) (by with_reducible assumption) | (refine' readsNew1 ?rF_r1 ?rN_r1 ?rM_r1 ?rR_r1;(case rF_r1 => k_asm);(case rN_r1 => k_asm);(case rM_r1 => k_mem);(case rR_r1 => with_reducible assumption)))
  k_with "call builtin:len" => ((k_here;(with_reducible show wpAny _ _ (call _ [Value.ref _]) _ _ _);k_dflt (refine' lenLst ?N_r2 ?m_r2 ?z_r2 ?_;(case N_r2 => k_asm);(case m_r2 => k_mem);(case z_r2 => first | assumption | omega);k_whole);intro _ _))
  k_with "call builtin:len" => ((k_here;k_dflt (refine' lenTup ?R_r3 ?t_r3 ?z_r3 ?_;(case R_r3 => walk_at "reads");(case t_r3 => assumption);(case z_r3 => first | assumption | omega);k_whole);intro _ _))
  k_with "call builtin:list.pop" => ((k_here;(with_reducible show wpAny _ _ (call _ [Value.ref _]) _ _ _);k_dflt (refine' popLst ?F_r4 ?N_r4 ?U_r4 ?z_r4 ?_;(case F_r4 => k_asm);(case N_r4 => k_asm);(case U_r4 => k_upd);(case z_r4 => first | assumption | omega);k_whole);intro qh' qF' qN'))
  k_with "call builtin:isinstance" => ((k_here;(with_reducible show wpAny _ _ (call _ [_, Value.type "tuple"]) _ _ _);k_dflt (refine' isiTup ?R_r5 ?_ ?_;(case R_r5 => walk_at "reads"));all_goals (intro qhI;(try intro qtkI);(try dsimp only))))
  k_with "call builtin:isinstance" => ((k_here;(with_reducible show wpAny _ _ (call _ [_, Value.type "str"]) _ _ _);k_dflt (refine' isiStr ?R_r6 ?_ ?_;(case R_r6 => walk_at "reads"));all_goals (first | (intro qxI qtI qeI qhI qlI;(try subst qeI);(try dsimp only)) | (intro qhI qtkI;(try dsimp only)))))
  k_with "subscriptTail" => ((k_here;(with_reducible show wpAny _ _ (subscriptTail _ _ _ (Value.int 0 _)) _ _ _);k_dflt (refine' itemB0 ?F_r7 ?R_r7 ?t_r7 ?k_r7 ?_ ?s_r7;(case F_r7 => k_asm);(case R_r7 => with_reducible assumption);(case t_r7 => assumption);(case k_r7 => omega);(case s_r7 => intro _;with_unfolding_all rfl);k_whole);intro qvI qrI;(try dsimp only at qrI);(try (obtain ⟨qtI, qeI⟩ := reads_strE qrI (by with_reducible assumption);subst qeI));(try dsimp only)))
  k_with "subscriptTail" => ((k_here;(with_reducible show wpAny _ _ (subscriptTail _ _ _ (Value.int 1 _)) _ _ _);k_dflt (refine' itemB1 ?F_r8 ?R_r8 ?t_r8 ?k_r8 ?_ ?s_r8;(case F_r8 => k_asm);(case R_r8 => with_reducible assumption);(case t_r8 => assumption);(case k_r8 => omega);(case s_r8 => intro _;with_unfolding_all rfl);k_whole);intro qvI qrI;(try dsimp only at qrI);(try (obtain ⟨qtI, qeI⟩ := reads_strE qrI (by with_reducible assumption);subst qeI));(try dsimp only)))
  k_with "subscriptTail" => ((k_here;(with_reducible show wpAny _ _ (subscriptTail _ _ _ (Value.int 2 _)) _ _ _);k_dflt (refine' itemB2 ?F_r9 ?R_r9 ?t_r9 ?k_r9 ?_ ?s_r9;(case F_r9 => k_asm);(case R_r9 => with_reducible assumption);(case t_r9 => assumption);(case k_r9 => omega);(case s_r9 => intro _;with_unfolding_all rfl);k_whole);intro qvI qrI;(try dsimp only at qrI);(try (obtain ⟨qtI, qeI⟩ := reads_strE qrI (by with_reducible assumption);subst qeI));(try dsimp only)))
  k_with "subscriptTail" => ((k_here;(with_reducible show wpAny _ _ (subscriptTail _ (PySem.Expr.Slice none (some _) none _) (Value.str _ _) _) _ _ _);(k_dflt (refine strCut1 (s := ⟨_, _, _, _, _⟩) (by assumption) (by assumption) ?hsz_r10 ?_));(case hsz_r10 => (rw [sizeLine_eq];omega));intro qh' qt' qk' qF' qN' qkK;(try dsimp only at qkK);(try dsimp only)))
  k_with "subscriptTail Name Slice str ref" => ((k_here;(with_reducible show wpAny _ _ (subscriptTail _ (PySem.Expr.Slice none (some _) none _) (Value.str _ _) _) _ _ _);(k_dflt (refine strCut1 (s := ⟨_, _, _, _, _⟩) (by assumption) (by assumption) ?hsz_r11 ?_));(case hsz_r11 => (rw [sizeLine_eq];omega));intro qh' qt' qk' qF' qN' qkK;(try dsimp only at qkK);(try dsimp only)))
  k_with "subscriptTail" => ((k_here;(with_reducible show wpAny _ _ (subscriptTail _ (PySem.Expr.Slice (some _) none none _) _ (Value.ref _)) _ _ _);(k_dflt (refine' sliceTup1 (s := ⟨_, _, _, _, _⟩) ?F_r12 ?N_r12 ?R_r12 ?t_r12 ?k_r12 ?z_r12 ?_ ?hs_r12 ?hg_r12;(case F_r12 => k_asm);(case N_r12 => k_asm);(case R_r12 => with_reducible assumption);(case t_r12 => assumption);(case k_r12 => omega);(case z_r12 => omega);(case hs_r12 => intro _;with_unfolding_all rfl);(case hg_r12 => intro _ _;with_unfolding_all rfl)));intro qD' qh' qvs' qF' qN' qR' ql1 qe1;(try k_lt ql1);(try dsimp only)))
  k_with "call builtin:list.extend" => ((k_here;(k_dflt (refine' extLst ?F_r13 ?N_r13 ?b_r13 ?U_r13 ?z_r13 ?_;(case F_r13 => k_asm);(case N_r13 => k_asm);(case b_r13 => k_mem);(case U_r13 => intro qk9;k_upd);(case z_r13 => omega)));intro qh' qk' qF' qN';(try dsimp only)))
  k_with "good" => (first | exact good_shaped (by assumption) (by omega) | exact good_shaped (good_filter (by assumption)) (by omega))
  k_with "units" => (first | exact addLt (by assumption) (by decide) | exact addLt1 (c := 3) (by assumption) (by decide) | exact addLt1 (c := 1) (by assumption) (by decide) | exact addLt2 (c := 3) (d := 1) (by assumption) (by decide) | exact addLt2 (c := 3) (d := 3) (by assumption) (by decide) | omega | ((try simp only [Around.deeper_units, units_in1]);omega))
  k_with "compareOp NotEq ref ref" => ((k_here;(with_reducible show wpAny _ _ (compareOp CmpOp.NotEq (Value.ref _) (Value.ref _)) _ _ _);k_dflt (refine' neNil ?F_r16 ?N_r16 ?E_r16 ?RA_r16 ?D_r16 ?a_r16 ?u_r16 ?_;(case F_r16 => k_asm);(case N_r16 => k_asm);(case E_r16 => k_mem);(case D_r16 => k_mem);(case RA_r16 => with_reducible assumption);(case a_r16 => walk_at "good");(case u_r16 => walk_at "units");k_whole);(try dsimp only)))
  k_with "compareOp Eq ref ref" => ((k_here;(with_reducible show wpAny _ _ (compareOp CmpOp.Eq (Value.ref _) (Value.ref _)) _ _ _);k_dflt (refine' eqNil ?F_r17 ?N_r17 ?E_r17 ?RA_r17 ?D_r17 ?a_r17 ?u_r17 ?_;(case F_r17 => k_asm);(case N_r17 => k_asm);(case E_r17 => k_mem);(case D_r17 => k_mem);(case RA_r17 => with_reducible assumption);(case a_r17 => walk_at "good");(case u_r17 => walk_at "units");k_whole);(try dsimp only)))
  k_with "call type:set" => ((k_here;(with_reducible show wpAny _ _ (call (Value.type "set") [Value.ref _]) _ _ _);k_dflt (refine' setStrs ?hh_r18 ?F_r18 ?N_r18 ?D_r18 ?S_r18 ?z_r18 ?_;(case hh_r18 => assumption);(case F_r18 => k_asm);(case N_r18 => k_asm);(case D_r18 => k_mem);(case S_r18 => with_reducible assumption);(case z_r18 => with_reducible assumption));intro qD' qh' qo' qtk' qF' qN' ql1 qsO;(try k_lt ql1);(try dsimp only)))
  k_with "call builtin:sorted" => ((k_here;(with_reducible show wpAny _ _ (call (Value.builtin "sorted") [Value.ref _]) _ _ _);k_dflt (refine' sortedSet ?hh_r19 ?F_r19 ?N_r19 ?D_r19 ?S_r19 ?z_r19 ?_;(case hh_r19 => assumption);(case F_r19 => k_asm);(case N_r19 => k_asm);(case D_r19 => k_mem);(case S_r19 => with_reducible assumption);(case z_r19 => with_reducible assumption));intro qD' qh' qtk' qdr' qvs' qss' qk' qF' qN' ql1 qsA qpA qsS;(try k_lt ql1);(try dsimp only)))
  k_with "compareOp Eq ref ref" => ((k_here;(with_reducible show wpAny _ _ (compareOp CmpOp.Eq (Value.ref _) (Value.ref _)) _ _ _);k_dflt (refine' eqNames ?F_r20 ?N_r20 ?D_r20 ?E_r20 ?SD_r20 ?SE_r20 ?p_r20 ?s_r20 ?ok_r20 ?z_r20 ?u_r20 ?_;(case F_r20 => k_asm);(case N_r20 => k_asm);(case D_r20 => k_mem);(case E_r20 => k_mem);(case SD_r20 => with_reducible assumption);(case SE_r20 => with_reducible assumption);(case p_r20 => with_reducible assumption);(case s_r20 => with_reducible assumption);(case ok_r20 => with_reducible assumption);(case z_r20 => with_reducible assumption);(case u_r20 => walk_at "units");k_whole);(try dsimp only)))
  k_with "room" => (first | exact addLt (by assumption) (by decide) | exact addLt1 (c := 1) (by assumption) (by decide) | exact addLt2 (c := 1) (d := 1) (by assumption) (by decide) | omega | ((try simp only [depth_deeper, depth_in1]);omega))
  k_with "call ref" => ((k_here;k_dflt (refine' plain_ok ?R_r22 ?z_r22 _ _ _ _ _ _ _ _ _ _ ?h1_r22 ?h2_r22 ?h3_r22 ?h4_r22 ?h5_r22 ?h6_r22 ?B_r22 ?F_r22 ?X_r22 ?T_r22 ?_;(case R_r22 => walk_at "reads");(case z_r22 => first | assumption | omega | (simp only [sz, szAll];omega));(case h1_r22 => assumption);(case h2_r22 => first | exact Around.frames_deeper (Below.stack (by assumption)) | assumption);(case h3_r22 => exact rfl);(case h4_r22 => exact rfl);(case h5_r22 => walk_at "room");(case h6_r22 => walk_at "units");(case B_r22 => assumption);(case F_r22 => assumption);(case X_r22 => assumption);(case T_r22 => assumption));intro qv9 qh' qtk' qkK;(try dsimp only at qkK);(rename News _ _ _ _ => qN9);(have qN' := Keep.news qkK qN9);(rename Fr _ _ _ _ => qF9);(have qF9k := fun (_ : True) => Keep.fr qkK qF9);intro qhF' qhP';(have qF' := qF9k True.intro);clear qF9k;(try subst qhP');(try dsimp only)))
  k_with "call ref" => ((k_here;k_dflt (refine' places_ok ?R_r23 ?g_r23 ?sm_r23 _ _ _ _ _ _ _ _ _ _ ?h1_r23 ?h2_r23 ?h3_r23 ?h4_r23 ?h5_r23 ?h6_r23 ?B_r23 ?F_r23 ?X_r23 ?T_r23 ?_;(case R_r23 => walk_at "reads");(case g_r23 => first | assumption | exact good_kids (by assumption) _ (kid_mem (by omega)));(case sm_r23 => assumption);(case h1_r23 => assumption);(case h2_r23 => first | exact Around.frames_deeper (Below.stack (by assumption)) | assumption);(case h3_r23 => exact rfl);(case h4_r23 => exact rfl);(case h5_r23 => walk_at "room");(case h6_r23 => walk_at "units");(case B_r23 => assumption);(case F_r23 => assumption);(case X_r23 => assumption);(case T_r23 => assumption));intro qv9 qh' qtk' qdr' qkK;(try dsimp only at qkK);(rename News _ _ _ _ => qN9);(have qN' := Keep.news qkK qN9);(rename Fr _ _ _ _ => qF9);(have qF9k := fun (_ : True) => Keep.fr qkK qF9);intro qhF' qhP';(have qF' := qF9k True.intro);clear qF9k;(try subst qhP');(try dsimp only)))
  k_with "unpackItems ref" => ((k_here;k_dflt (refine' unpackTup ?F_r24 ?N_r24 ?hh_r24 ?ht_r24 ?hn_r24 ?_;(case F_r24 => k_asm);(case N_r24 => k_asm);(case hh_r24 => assumption);(case ht_r24 => kun_tup);(case hn_r24 => exact rfl);k_whole);intro qh' qF' qN' qkK;(try dsimp only)))
  k_with "go2" => (repeat' ((fail_if_success (with_reducible show Exists _));(fail_if_success (with_reducible show _ ∧ Keeps _ _));(fail_if_success (with_reducible show wpAny _ _ (eval (PySem.Expr.ListComp _ _ _ _) _) _ _ _));(fail_if_success (with_reducible show wpAny _ _ (exec (Stmt.Assign _ (PySem.Expr.ListComp _ _ _ _) _) _) _ _ _));(fail_if_success (with_reducible show wpAny _ _ (exec (Stmt.For _ _ _ _ _) _) _ _ _));first | (k_unfold;(try dsimp only)) | walk1 | (dsimp only;walk1) | fail "no step"))
  k_with "call ref" => ((k_here;k_dflt (refine' form_ok ?R_r26 ?g_r26 ?z_r26 ?sm_r26 _ _ _ _ _ _ _ _ _ _ ?h1_r26 ?h2_r26 ?h3_r26 ?h4_r26 ?h5_r26 ?h6_r26 ?B_r26 ?F_r26 ?X_r26 ?T_r26 ?_;(case R_r26 => walk_at "reads");(case g_r26 => assumption);(case z_r26 => assumption);(case sm_r26 => assumption);(case h1_r26 => assumption);(case h2_r26 => first | exact Around.frames_deeper (Below.stack (by assumption)) | assumption);(case h3_r26 => exact rfl);(case h4_r26 => exact rfl);(case h5_r26 => walk_at "room");(case h6_r26 => walk_at "units");(case B_r26 => assumption);(case F_r26 => assumption);(case X_r26 => assumption);(case T_r26 => assumption));intro qv9 qh' qtk' qdr' qkK;(try dsimp only at qkK);(rename News _ _ _ _ => qN9);(have qN' := Keep.news qkK qN9);(rename Fr _ _ _ _ => qF9);(have qF9k := fun (_ : True) => Keep.fr qkK qF9);intro qhF' qhP';(have qF' := qF9k True.intro);clear qF9k;(try subst qhP');(try dsimp only)))
  k_with "call ref" => ((k_here;k_dflt (refine' parts_ok ?R_r27 ?t_r27 ?l_r27 ?o_r27 _ _ _ _ _ _ _ _ _ _ ?h1_r27 ?h2_r27 ?h3_r27 ?h4_r27 ?h5_r27 ?h6_r27 ?B_r27 ?F_r27 ?X_r27 ?T_r27 ?_;(case R_r27 => walk_at "reads");(case t_r27 => assumption);(case l_r27 => assumption);(case o_r27 => assumption);(case h1_r27 => assumption);(case h2_r27 => first | exact Around.frames_deeper (Below.stack (by assumption)) | assumption);(case h3_r27 => exact rfl);(case h4_r27 => exact rfl);(case h5_r27 => walk_at "room");(case h6_r27 => walk_at "units");(case B_r27 => assumption);(case F_r27 => assumption);(case X_r27 => assumption);(case T_r27 => assumption));intro qv9 qh' qtk' qkK;(try dsimp only at qkK);(rename News _ _ _ _ => qN9);(have qN' := Keep.news qkK qN9);(rename Fr _ _ _ _ => qF9);(have qF9k := fun (_ : True) => Keep.fr qkK qF9);intro qhF' qhP';(have qF' := qF9k True.intro);clear qF9k;(obtain ⟨qT9, qe9, qo9, qn9⟩ := qhP';subst qe9);(try dsimp only at qn9);(have qN'' := newsAdd qF9 qN' qo9 qn9);(have qne9 := newsNe qN9 qn9);clear qN';(simp only [List.forall_mem_cons, List.not_mem_nil, false_implies, implies_true, and_true] at qne9);(try dsimp only)))
  k_with "assign Tuple" => ((k_here;k_dflt (refine' asgPair ?F_r28 ?N_r28 ?hh_r28 ?ht_r28 ?_;(case F_r28 => k_asm);(case N_r28 => k_asm);(case hh_r28 => assumption);(case ht_r28 => kun_tup);k_whole);intro qh' qF' qN' qkK;(try dsimp only)))
  k_with "go3" => (repeat' ((fail_if_success (with_reducible show Exists _));(fail_if_success (with_reducible show _ ∧ Keeps _ _));(fail_if_success (with_reducible show wpAny _ _ (exec (Stmt.Assign _ (PySem.Expr.ListComp _ _ _ _) _) _) _ _ _));(fail_if_success (with_reducible show wpAny _ _ (exec (Stmt.For _ _ _ _ _) _) _ _ _));first | (k_unfold;(try dsimp only)) | walk1 | (dsimp only;walk1) | fail "no step"))
  k_with "call type:enumerate" => ((k_here;(with_reducible show wpAny _ _ (call (Value.type "enumerate") [Value.ref _]) _ _ _);k_dflt (refine' enumT ?F_r30 ?N_r30 ?m_r30 ?_;(case F_r30 => k_asm);(case N_r30 => k_asm);(case m_r30 => k_mem));intro qe qh' qF' qN' qkE;(try dsimp only)))
  k_with "go4" => (repeat' ((fail_if_success (with_reducible show Exists _));(fail_if_success (with_reducible show _ ∧ Keeps _ _));(fail_if_success (with_reducible show wpAny _ _ (eval (PySem.Expr.ListComp _ _ _ _) _) _ _ _));(fail_if_success (with_reducible show wpAny _ _ (exec (Stmt.Assign _ (PySem.Expr.ListComp _ _ _ _) _) _) _ _ _));first | (k_unfold;(try dsimp only)) | walk1 | (dsimp only;walk1) | fail "no step"))
  k_with "call ref" => ((k_here;k_dflt (refine' order_ok ?R_r32 ?g_r32 ?z_r32 ?sm_r32 ?hc_r32 _ _ _ _ _ _ _ _ _ _ ?h1_r32 ?h2_r32 ?h3_r32 ?h4_r32 ?h5_r32 ?h6_r32 ?B_r32 ?F_r32 ?X_r32 ?T_r32 ?_;(case R_r32 => walk_at "reads");(case g_r32 => assumption);(case z_r32 => assumption);(case sm_r32 => assumption);(case hc_r32 => assumption);(case h1_r32 => assumption);(case h2_r32 => first | exact Around.frames_deeper (Below.stack (by assumption)) | assumption);(case h3_r32 => exact rfl);(case h4_r32 => exact rfl);(case h5_r32 => walk_at "room");(case h6_r32 => walk_at "units");(case B_r32 => assumption);(case F_r32 => assumption);(case X_r32 => assumption);(case T_r32 => assumption));intro qv9 qh' qtk' qdr' qkK;(try dsimp only at qkK);(rename News _ _ _ _ => qN9);(have qN' := Keep.news qkK qN9);(rename Fr _ _ _ _ => qF9);(have qF9k := fun (_ : True) => Keep.fr qkK qF9);intro qhF' qhP';(have qF' := qF9k True.intro);clear qF9k;(obtain ⟨qD9, qT9, qP9, qk9, qe9, qoD9, qoT9, qoP9, qnD9, qnT9, qnP9⟩ := qhP';subst qe9);(try dsimp only at qnD9 qnT9 qnP9);(have qNp := newsAdd qF9 qN' qoP9 qnP9);(have qNt := newsAdd qF9 qNp qoT9 qnT9);(have qNd := newsAdd qF9 qNt qoD9 qnD9);(have qneP := newsNe qN9 qnP9);(have qneT := newsNe qN9 qnT9);(have qneD := newsNe qN9 qnD9);(have qnePT := ne3 qoD9 qoT9 qoP9);clear qN' qNp qNt;(simp only [List.forall_mem_cons, List.not_mem_nil, false_implies, implies_true, and_true] at qneP qneT qneD);(try dsimp only)))
  k_with "call ref" => ((k_here;k_dflt (refine' want_raises ?R_r33 ?g_r33 ?z_r33 ?sm_r33 ?form_r33 ?P_r33 _ _ _ _ _ _ _ _ _ _ ?h1_r33 ?h2_r33 ?h3_r33 ?h4_r33 ?h5_r33 ?h6_r33 ?B_r33 ?F_r33 ?X_r33 ?T_r33 ?KD_r33 ?_;(case R_r33 => walk_at "reads");(case g_r33 => assumption);(case z_r33 => assumption);(case sm_r33 => assumption);(case form_r33 => assumption);(case P_r33 => exact ⟨_, News.get (by k_asm) (by k_mem), rfl, _, rfl⟩);(case h1_r33 => assumption);(case h2_r33 => first | exact Around.frames_deeper (Below.stack (by assumption)) | assumption);(case h3_r33 => exact rfl);(case h4_r33 => exact rfl);(case h5_r33 => walk_at "room");(case h6_r33 => walk_at "units");(case B_r33 => assumption);(case F_r33 => assumption);(case X_r33 => assumption);(case T_r33 => assumption);(case KD_r33 => exact ktsKeep (by assumption) (Fr.keep (by k_asm))));intro qe9 qh' qtk' qdr' qth9;(try dsimp only at qth9);(try dsimp only)))
  k_with "k_ne" => ((refine neN ?_;(try dsimp only);first | assumption | exact Ne.symm (by assumption) | exact Nat.ne_of_lt (by assumption) | exact Nat.ne_of_gt (by assumption) | exact (And.left (by assumption)) | exact (Ne.symm (And.left (by assumption))) | exact (Nat.ne_of_lt (And.left (by assumption))) | exact (Nat.ne_of_gt (And.left (by assumption))) | exact (And.left (And.right (by assumption))) | exact (Ne.symm (And.left (And.right (by assumption)))) | exact (Nat.ne_of_lt (And.left (And.right (by assumption)))) | exact (Nat.ne_of_gt (And.left (And.right (by assumption)))) | exact (And.right (by assumption)) | exact (Ne.symm (And.right (by assumption))) | exact (Nat.ne_of_lt (And.right (by assumption))) | exact (Nat.ne_of_gt (And.right (by assumption))) | exact (And.left (And.right (And.right (by assumption)))) | exact (Ne.symm (And.left (And.right (And.right (by assumption))))) | exact (Nat.ne_of_lt (And.left (And.right (And.right (by assumption))))) | exact (Nat.ne_of_gt (And.left (And.right (And.right (by assumption))))) | exact (And.right (And.right (by assumption))) | exact (Ne.symm (And.right (And.right (by assumption)))) | exact (Nat.ne_of_lt (And.right (And.right (by assumption)))) | exact (Nat.ne_of_gt (And.right (And.right (by assumption)))) | exact (And.left (And.right (And.right (And.right (by assumption))))) | exact (Ne.symm (And.left (And.right (And.right (And.right (by assumption)))))) | exact (Nat.ne_of_lt (And.left (And.right (And.right (And.right (by assumption)))))) | exact (Nat.ne_of_gt (And.left (And.right (And.right (And.right (by assumption)))))) | exact (And.right (And.right (And.right (by assumption)))) | exact (Ne.symm (And.right (And.right (And.right (by assumption))))) | exact (Nat.ne_of_lt (And.right (And.right (And.right (by assumption))))) | exact (Nat.ne_of_gt (And.right (And.right (And.right (by assumption))))) | exact (And.left (And.right (And.right (And.right (And.right (by assumption)))))) | exact (Ne.symm (And.left (And.right (And.right (And.right (And.right (by assumption))))))) | exact (Nat.ne_of_lt (And.left (And.right (And.right (And.right (And.right (by assumption))))))) | exact (Nat.ne_of_gt (And.left (And.right (And.right (And.right (And.right (by assumption))))))) | exact (And.right (And.right (And.right (And.right (by assumption))))) | exact (Ne.symm (And.right (And.right (And.right (And.right (by assumption)))))) | exact (Nat.ne_of_lt (And.right (And.right (And.right (And.right (by assumption)))))) | exact (Nat.ne_of_gt (And.right (And.right (And.right (And.right (by assumption)))))) | exact (And.left (And.right (And.right (And.right (And.right (And.right (by assumption))))))) | exact (Ne.symm (And.left (And.right (And.right (And.right (And.right (And.right (by assumption)))))))) | exact (Nat.ne_of_lt (And.left (And.right (And.right (And.right (And.right (And.right (by assumption)))))))) | exact (Nat.ne_of_gt (And.left (And.right (And.right (And.right (And.right (And.right (by assumption)))))))) | exact (And.right (And.right (And.right (And.right (And.right (by assumption)))))) | exact (Ne.symm (And.right (And.right (And.right (And.right (And.right (by assumption))))))) | exact (Nat.ne_of_lt (And.right (And.right (And.right (And.right (And.right (by assumption))))))) | exact (Nat.ne_of_gt (And.right (And.right (And.right (And.right (And.right (by assumption))))))) | exact (And.left (And.right (And.right (And.right (And.right (And.right (And.right (by assumption)))))))) | exact (Ne.symm (And.left (And.right (And.right (And.right (And.right (And.right (And.right (by assumption))))))))) | exact (Nat.ne_of_lt (And.left (And.right (And.right (And.right (And.right (And.right (And.right (by assumption))))))))) | exact (Nat.ne_of_gt (And.left (And.right (And.right (And.right (And.right (And.right (And.right (by assumption))))))))) | exact (And.right (And.right (And.right (And.right (And.right (And.right (by assumption))))))) | exact (Ne.symm (And.right (And.right (And.right (And.right (And.right (And.right (by assumption)))))))) | exact (Nat.ne_of_lt (And.right (And.right (And.right (And.right (And.right (And.right (by assumption)))))))) | exact (Nat.ne_of_gt (And.right (And.right (And.right (And.right (And.right (And.right (by assumption)))))))) | omega))
  k_with "k_ne" => ((refine neN ?_;(try dsimp only);first | assumption | exact Ne.symm (by assumption)))
  k_with "k_all" => (assumption)
  k_with "go9" => (repeat' ((fail_if_success (with_reducible show Exists _));(fail_if_success (with_reducible show _ = Flow.next ∧ _));(fail_if_success (with_reducible show wpAny _ _ (pyIter _) _ _ _));(fail_if_success (with_reducible show wpAny _ _ (exec (Stmt.For _ _ _ _ _) _) _ _ _));first | (k_unfold;(try dsimp only)) | walk1 | (dsimp only;walk1) | fail "no step"))
  trivial
noncomputable def hasM (c : String) (marks : Str) : Bool := !(Builtin.Str.occurrences marks (Str.ofString c) 0 marks.length 1).isEmpty
noncomputable def innerD (p q : PyData × Str) : List PyData :=
  [.tuple [st "join", p.1, q.1]] ++ (bif hasM "t" p.2 && hasM "p" q.2 then [.tuple [st "rule", p.1, q.1]] else []) ++ (bif hasM "o" p.2 && hasM "u" q.2 then [.tuple [st "under", p.1, q.1]] else [])
theorem len_inner (p q : PyData × Str) : (innerD p q).length ≤ 3 := by
  unfold innerD
  cases hasM "t" p.2 && hasM "p" q.2 <;> cases hasM "o" p.2 && hasM "u" q.2 <;> simp
theorem len_flat {α : Type} {f : α → List PyData} {n : Nat} (hf : ∀ a, (f a).length ≤ n) : ∀ l : List α, (l.flatMap f).length ≤ n * l.length
  | [] => by simp
  | a :: r => by
    have := len_flat hf r
    have h2 := hf a
    rw [List.flatMap_cons, List.length_append, List.length_cons, Nat.mul_succ]; omega
theorem mk3 {h : Heap} {T : Addr} {x y : Value} {u : Str} {tk : Tok} {d1 d2 : PyData} (hT : h.get? T = some { cls := .type "tuple", data := .seq #[.str u tk, x, y] }) (rx : Reads h x d1 []) (ry : Reads h y d2 []) : Reads h (.ref T) (.tuple [.str u, d1, d2]) [] :=
  .tuple hT rfl rfl (ReadsAll.cons (as := []) (.str u tk) (ReadsAll.cons (as := []) rx (ReadsAll.cons (as := []) ry .nil)))
theorem mk2 {h : Heap} {T : Addr} {x : Value} {u : Str} {tk : Tok} {d1 : PyData} (hT : h.get? T = some { cls := .type "tuple", data := .seq #[.str u tk, x] }) (rx : Reads h x d1 []) : Reads h (.ref T) (.tuple [.str u, d1]) [] :=
  .tuple hT rfl rfl (ReadsAll.cons (as := []) (.str u tk) (ReadsAll.cons (as := []) rx .nil))
theorem rcons {h : Heap} {v : Value} {d : PyData} {vs : List Value} {ds : List PyData} (a : Reads h v d []) (b : ReadsAll h vs ds []) : ReadsAll h (v :: vs) (d :: ds) [] := ReadsAll.cons (as := []) a b
noncomputable def PapIn (g : Heap) (Ts : List (Addr × Obj)) (wf : List Value) (ps : List (PyData × Str)) (p : PyData × Str) (I : Addr) (oI : Obj) (Fd S : Addr) (x : Value) (mt : Tok) (i : Nat) (m : Str → Option Value) (news : List (Addr × Obj)) : Prop :=
  ∃ kf wf' Ts' add, m (Str.ofString "found") = some (.ref Fd) ∧ m (Str.ofString "one") = some x ∧ m (Str.ofString "marks") = some (.str p.2 mt) ∧ m (Str.ofString "some") = some (.ref S) ∧ news = (I, oI) :: (Fd, listOf wf'.toArray kf) :: Ts' ∧ (∀ q ∈ Ts', @Ne Nat q.1 Fd) ∧ (∀ q ∈ Ts, q ∈ Ts') ∧ wf' = wf ++ add ∧ RdTs g Ts' add ((ps.take i).flatMap (innerD p)) ∧ AllTup Ts'
theorem allT1 {a : Addr} {v : Array Value} {n : Nat} : AllTup [(a, { cls := .type "tuple", data := .seq v n })] := fun p hp => by rw [List.mem_singleton.mp hp]
theorem allT2 {a a2 : Addr} {v v2 : Array Value} {n n2 : Nat} : AllTup [(a, { cls := .type "tuple", data := .seq v n }), (a2, { cls := .type "tuple", data := .seq v2 n2 })] := fun p hp => by
  rcases List.mem_cons.mp hp with rfl | hp
  · rfl
  · rw [List.mem_singleton.mp hp]
theorem allT3 {a a2 a3 : Addr} {v v2 v3 : Array Value} {n n2 n3 : Nat} : AllTup [(a, { cls := .type "tuple", data := .seq v n }), (a2, { cls := .type "tuple", data := .seq v2 n2 }), (a3, { cls := .type "tuple", data := .seq v3 n3 })] := fun p hp => by
  rcases List.mem_cons.mp hp with rfl | hp
  · rfl
  · exact allT2 p hp
theorem pushed1 {l : List Value} {a : Value} : l.toArray.push a = (l ++ [a]).toArray := by simp
theorem pushed2 {l : List Value} {a b : Value} : (l.toArray.push a).push b = (l ++ [a, b]).toArray := by simp
theorem pushed3 {l : List Value} {a b c : Value} : ((l.toArray.push a).push b).push c = (l ++ [a, b, c]).toArray := by simp
theorem inner_close {g h : Heap} {Ts Ts1 : List (Addr × Obj)} {wf add : List Value} {ps : List (PyData × Str)} {p pq : PyData × Str} {I I2 Fd S L : Addr} {oI oI2 : Obj} {x : Value} {mt : Tok} {i k : Nat} {m : Str → Option Value} {arr : Array Value} (front : List (Addr × Obj)) (addv : List Value) {P : Prop}
    (N : News g L h (front ++ (I2, oI2) :: (I, oI) :: (Fd, listOf arr k) :: Ts1)) (harr : arr = ((wf ++ add) ++ addv).toArray) (hlt : ∀ q ∈ front, @Ne Nat q.1 I2 ∧ @Ne Nat q.1 Fd) (o1 : @Ne Nat I I2) (o2 : @Ne Nat Fd I2) (o3 : ∀ q ∈ Ts1, @Ne Nat q.1 I2) (hTs1 : ∀ q ∈ Ts1, @Ne Nat q.1 Fd) (hsub : ∀ q ∈ Ts, q ∈ Ts1) (hft : AllTup front) (hA1 : AllTup Ts1)
    (hpq : ps[i]? = some pq) (rd : RdTs g Ts1 add ((ps.take i).flatMap (innerD p))) (hrd : ∀ h, Keep g h → (∀ q ∈ front, h.get? q.1 = some q.2) → ReadsAll h addv (innerD p pq) [])
    (mf : m (Str.ofString "found") = some (.ref Fd)) (mo : m (Str.ofString "one") = some x) (mm : m (Str.ofString "marks") = some (.str p.2 mt)) (ms : m (Str.ofString "some") = some (.ref S))
    (hP : ∀ news', News g L h ((I2, oI2) :: news') → (∀ q ∈ news', @Ne Nat q.1 I2) → PapIn g Ts wf ps p I oI Fd S x mt (i + 1) m news' → P) : P := by
  refine hP ((I, oI) :: (Fd, listOf arr k) :: (front ++ Ts1)) (fun q hq => N q ?_) (fun q hq => ?_) ?_
  · rcases List.mem_cons.mp hq with rfl | hq
    · exact List.mem_append_right _ (.head _)
    · rcases List.mem_cons.mp hq with rfl | hq
      · exact List.mem_append_right _ (.tail _ (.head _))
      · rcases List.mem_cons.mp hq with rfl | hq
        · exact List.mem_append_right _ (.tail _ (.tail _ (.head _)))
        · rcases List.mem_append.mp hq with hq | hq
          · exact List.mem_append_left _ hq
          · exact List.mem_append_right _ (.tail _ (.tail _ (.tail _ hq)))
  · rcases List.mem_cons.mp hq with rfl | hq
    · exact o1
    · rcases List.mem_cons.mp hq with rfl | hq
      · exact o2
      · rcases List.mem_append.mp hq with hq | hq
        · exact (hlt q hq).1
        · exact o3 q hq
  · subst harr
    refine ⟨k, _, front ++ Ts1, add ++ addv, mf, mo, mm, ms, rfl, fun q hq => ?_, fun q hq => List.mem_append_right _ (hsub q hq), by rw [List.append_assoc], fun h' kk kt => ?_, fun q hq => (List.mem_append.mp hq).elim (hft q) (hA1 q)⟩
    · rcases List.mem_append.mp hq with hq | hq
      · exact (hlt q hq).2
      · exact hTs1 q hq
    · rw [take_snoc hpq, List.flatMap_append]
      refine readsAll_app (rd h' kk fun q hq => kt q (List.mem_append_right _ hq)) ?_
      simpa using hrd h' kk fun q hq => kt q (List.mem_append_left _ hq)
namespace papers_inner_n
noncomputable def Wk (w : World) (mean : ExcName → Option Value) (mg : Str → Option Value) (mb : Str → Option Value) (s : Shared) (A : Around) (g : Heap) (L : Addr) (S : Addr) (I : Addr) (Fd : Addr) (m : Str → Option Value) (Q : Flow → Shared → Prop) (E : Value → Shared → Prop) (oI : Obj) (kS : Nat) (kf : Nat) (vs : List Value) (wf : List Value) (ps : List (PyData × Str)) (Ts : List (Addr × Obj)) (p : PyData × Str) (x : Value) (mt : Tok) : Prop := ∀ (name : Str) (qual : Str) (params : Arguments) (s1 : Stmt) (s3 : Stmt) (b1 : Stmt) (b2 : Stmt) (b3 : Stmt) (inner : Stmt) (t1 : PySem.Expr) (it1 : PySem.Expr) (p1 : Pos) (scope : Scope) (dV : Value) (kV : Value) (doc : Value) (pm : Value) (cdv : Value) (ct : Value) (oc : Value) (an : Option Addr) (od : Option Addr) (osl : Array (Option Value)) (hlk : (Mine.hd.heap_39 w.params).lookup 219 = some ⟨oc, od, .func (fnOf name qual params [s1, .For t1 it1 [b1, b2, b3, inner] [] p1, s3] scope dV kV doc pm an cdv ct), osl⟩) (hh : A.handled = none) (F : Fr g L s.heap m) (X : (Mine.hd.heap_39 w.params).In g) (T : TopH mean mg mb g) (hS : g.get? S = some (listOf vs.toArray kS)) (RA : ReadsAll g vs (ps.map pairD) []) (mf : m (Str.ofString "found") = some (.ref Fd)) (mo : m (Str.ofString "one") = some x) (mm : m (Str.ofString "marks") = some (.str p.2 mt)) (ms : m (Str.ofString "some") = some (.ref S)) (rx : Reads g x p.1 []) (N : News g L s.heap ((I, oI) :: (Fd, listOf wf.toArray kf) :: Ts)) (hIF : @Ne Nat I Fd) (hTs : ∀ q ∈ Ts, @Ne Nat q.1 Fd) (hAT : AllTup Ts) (hz : wf.length ≤ 1000) (hps : ps.length = 5) (ret : ∀ h tk dr m' kf' add Ts', Fr g L h m' → m' (Str.ofString "found") = some (.ref Fd) → m' (Str.ofString "some") = some (.ref S) → News g L h ((I, oI) :: (Fd, listOf (wf ++ add).toArray kf') :: Ts') → (∀ q ∈ Ts', @Ne Nat q.1 Fd) → (∀ q ∈ Ts, q ∈ Ts') → RdTs g Ts' add (ps.flatMap (innerD p)) → AllTup Ts' → Q .next { s with heap := h, toks := tk, drawn := dr }), wpAny (model PG w) A (exec inner (envOf qual scope L 219 cdv)) Q E s
theorem inhab : Nonempty ((World) × (ExcName → Option Value) × (Str → Option Value) × (Str → Option Value) × (Shared) × (Around) × (Heap) × (Addr) × (Addr) × (Addr) × (Addr) × (Str → Option Value) × (Flow → Shared → Prop) × (Value → Shared → Prop) × (Obj) × (Nat) × (Nat) × (List Value) × (List Value) × (List (PyData × Str)) × (List (Addr × Obj)) × (PyData × Str) × (Value) × (Tok)) := ⟨((aWorld 1), (fun _ => none), (fun _ => none), (fun _ => none), ({}), ({}), ({}), (0), (0), (0), (0), (fun _ => none), (fun _ _ => True), (fun _ _ => True), (⟨.none, none, .freed, #[]⟩), (0), (0), ([]), ([]), ([]), ([]), (.none, Str.ofString "a"), (.none), (0))⟩
noncomputable def cc : (World) × (ExcName → Option Value) × (Str → Option Value) × (Str → Option Value) × (Shared) × (Around) × (Heap) × (Addr) × (Addr) × (Addr) × (Addr) × (Str → Option Value) × (Flow → Shared → Prop) × (Value → Shared → Prop) × (Obj) × (Nat) × (Nat) × (List Value) × (List Value) × (List (PyData × Str)) × (List (Addr × Obj)) × (PyData × Str) × (Value) × (Tok) := pickA inhab fun c => Wk c.1 c.2.1 c.2.2.1 c.2.2.2.1 c.2.2.2.2.1 c.2.2.2.2.2.1 c.2.2.2.2.2.2.1 c.2.2.2.2.2.2.2.1 c.2.2.2.2.2.2.2.2.1 c.2.2.2.2.2.2.2.2.2.1 c.2.2.2.2.2.2.2.2.2.2.1 c.2.2.2.2.2.2.2.2.2.2.2.1 c.2.2.2.2.2.2.2.2.2.2.2.2.1 c.2.2.2.2.2.2.2.2.2.2.2.2.2.1 c.2.2.2.2.2.2.2.2.2.2.2.2.2.2.1 c.2.2.2.2.2.2.2.2.2.2.2.2.2.2.2.1 c.2.2.2.2.2.2.2.2.2.2.2.2.2.2.2.2.1 c.2.2.2.2.2.2.2.2.2.2.2.2.2.2.2.2.2.1 c.2.2.2.2.2.2.2.2.2.2.2.2.2.2.2.2.2.2.1 c.2.2.2.2.2.2.2.2.2.2.2.2.2.2.2.2.2.2.2.1 c.2.2.2.2.2.2.2.2.2.2.2.2.2.2.2.2.2.2.2.2.1 c.2.2.2.2.2.2.2.2.2.2.2.2.2.2.2.2.2.2.2.2.2.1 c.2.2.2.2.2.2.2.2.2.2.2.2.2.2.2.2.2.2.2.2.2.2.1 c.2.2.2.2.2.2.2.2.2.2.2.2.2.2.2.2.2.2.2.2.2.2.2
@[irreducible] noncomputable def w : World := cc.1
@[irreducible] noncomputable def mean : ExcName → Option Value := cc.2.1
@[irreducible] noncomputable def mg : Str → Option Value := cc.2.2.1
@[irreducible] noncomputable def mb : Str → Option Value := cc.2.2.2.1
@[irreducible] noncomputable def s : Shared := cc.2.2.2.2.1
@[irreducible] noncomputable def A : Around := cc.2.2.2.2.2.1
@[irreducible] noncomputable def g : Heap := cc.2.2.2.2.2.2.1
@[irreducible] noncomputable def L : Addr := cc.2.2.2.2.2.2.2.1
@[irreducible] noncomputable def S : Addr := cc.2.2.2.2.2.2.2.2.1
@[irreducible] noncomputable def I : Addr := cc.2.2.2.2.2.2.2.2.2.1
@[irreducible] noncomputable def Fd : Addr := cc.2.2.2.2.2.2.2.2.2.2.1
@[irreducible] noncomputable def m : Str → Option Value := cc.2.2.2.2.2.2.2.2.2.2.2.1
@[irreducible] noncomputable def Q : Flow → Shared → Prop := cc.2.2.2.2.2.2.2.2.2.2.2.2.1
@[irreducible] noncomputable def E : Value → Shared → Prop := cc.2.2.2.2.2.2.2.2.2.2.2.2.2.1
@[irreducible] noncomputable def oI : Obj := cc.2.2.2.2.2.2.2.2.2.2.2.2.2.2.1
@[irreducible] noncomputable def kS : Nat := cc.2.2.2.2.2.2.2.2.2.2.2.2.2.2.2.1
@[irreducible] noncomputable def kf : Nat := cc.2.2.2.2.2.2.2.2.2.2.2.2.2.2.2.2.1
@[irreducible] noncomputable def vs : List Value := cc.2.2.2.2.2.2.2.2.2.2.2.2.2.2.2.2.2.1
@[irreducible] noncomputable def wf : List Value := cc.2.2.2.2.2.2.2.2.2.2.2.2.2.2.2.2.2.2.1
@[irreducible] noncomputable def ps : List (PyData × Str) := cc.2.2.2.2.2.2.2.2.2.2.2.2.2.2.2.2.2.2.2.1
@[irreducible] noncomputable def Ts : List (Addr × Obj) := cc.2.2.2.2.2.2.2.2.2.2.2.2.2.2.2.2.2.2.2.2.1
@[irreducible] noncomputable def p : PyData × Str := cc.2.2.2.2.2.2.2.2.2.2.2.2.2.2.2.2.2.2.2.2.2.1
@[irreducible] noncomputable def x : Value := cc.2.2.2.2.2.2.2.2.2.2.2.2.2.2.2.2.2.2.2.2.2.2.1
@[irreducible] noncomputable def mt : Tok := cc.2.2.2.2.2.2.2.2.2.2.2.2.2.2.2.2.2.2.2.2.2.2.2
theorem here : Wk w mean mg mb s A g L S I Fd m Q E oI kS kf vs wf ps Ts p x mt := by
  unfold Wk
  intro name qual params s1 s3 b1 b2 b3 inner t1 it1 p1 scope dV kV doc pm cdv ct oc an od osl hlk hh F X T hS RA mf mo mm ms rx N hIF hTs hAT hz hps ret
  (have hFill : ∀ P : Params, (Mine.hd.heap_39 P = Mine.hd.heap_39 P) ∧ PySem.Challenge.rw_rg0113_01 = PySem.Challenge.rw_rg0113_01 := (by k_fill; exact fillK); clear hFill)
  have hlk' : (Mine.hd.heap_39 w.params).lookup 219 = some _ := rfl
  cases hlk.symm.trans hlk'
  clear hlk hlk'
  have F := frPin2 (frPin2 F mf mo) (x := Str.ofString "marks") (y := Str.ofString "some") mm ms
  k_dflt (refine' forCore (g := g) (L := L) vs.length (fun i v => vs[i]? = some v) (fun h => h.get? S = some (listOf vs.toArray kS)) (PapIn g Ts wf ps p I oI Fd S x mt) ?n1 ?n2; (case n1 => intro _; with_unfolding_all rfl))
  intro R1 close1
  walk_at "go9"; all_goals (try k_data)
  all_goals (try dsimp only)
  refine srcList (g := g) (L := L) (s := ⟨_, _, _, _, _⟩) hh (F.keep _ _ hS) F N fun I2 fp St h9 k9 ls hit => ?_
  refine close1 _ I2 fp St _ _ ls ?_ (fun _ _ _ _ hJ F9 _ => F9.keep _ _ hS) ?_ ?_
  · exact ⟨kf, wf, Ts, [], rfl, rfl, rfl, rfl, rfl, hTs, fun q hq => hq, by simp, fun _ _ _ => by simpa using ReadsAll.nil, hAT⟩
  · rintro i v m₁ news₁ oI2 h tk dr R9 close9 hi hv ⟨kf1, wf1, Ts1, add, mf1, mo1, mm1, ms1, rfl, hTs1, hsub1, rfl, rd1, hA1⟩ off F1 N1 hIc2 hst
    obtain ⟨q, hq, rq⟩ := readsAll_item RA hv
    obtain ⟨i2, hst2⟩ := hst
    obtain ⟨l2, j2, hit2⟩ := hit _ _ hst2
    rw [List.getElem?_map] at hq
    obtain ⟨pq, hpq, rfl⟩ := Option.map_eq_some_iff.mp hq
    obtain ⟨Ta, y, ty, rfl, hTa, ry⟩ := pair_open rq
    refine wpAny_letOwnedTupleGo_listiter (s := ⟨_, _, _, _, _⟩) hit2 ?_
    have F1 := frPin2 (frPin2 F1 mf1 mo1) (x := Str.ofString "marks") (y := Str.ofString "some") mm1 ms1
    k_dflt (refine' asgPair (s := ⟨_, _, _, _, _⟩) F1 N1 hh (IsTup.keeps hTa F1.keep) ?_)
    intro h3 F3 N3 k3
    clear F1 N1
    have o1 := off _ (.head _)
    have o2 := off _ (.tail _ (.head _))
    have o3 : ∀ q ∈ Ts1, @Ne Nat q.1 I2 := fun q hq => off q (.tail _ (.tail _ hq))
    have hz1 : (wf ++ add).length ≤ 2000 := by
      have e1 := readsAll_len (rd1 _ F3.keep fun q hq => (N3 _ (.tail _ (.tail _ (.tail _ hq)))).1)
      have e2 := len_flat (f := innerD p) (n := 3) (len_inner p) (ps.take i)
      have e3 : (ps.take i).length ≤ ps.length := by rw [List.length_take]; exact Nat.min_le_right _ _
      rw [List.length_append]; omega
    (try dsimp only)
    walk_at "go9"; all_goals (try k_data)
    all_goals (try dsimp only)
    all_goals (rename News _ _ _ _ => N9; rename Fr _ _ _ _ => F9)
    all_goals first
      | refine inner_close [_] [_] N9 pushed1 ?_ o1 o2 o3 hTs1 hsub1 allT1 hA1 hpq rd1 ?_ rfl rfl rfl rfl (fun news' a1 a2 a3 => close9 _ _ _ _ _ F9 a1 a2 a3)
      | refine inner_close [_, _] [_, _] N9 pushed2 ?_ o1 o2 o3 hTs1 hsub1 allT2 hA1 hpq rd1 ?_ rfl rfl rfl rfl (fun news' a1 a2 a3 => close9 _ _ _ _ _ F9 a1 a2 a3)
      | refine inner_close [_, _, _] [_, _, _] N9 pushed3 ?_ o1 o2 o3 hTs1 hsub1 allT3 hA1 hpq rd1 ?_ rfl rfl rfl rfl (fun news' a1 a2 a3 => close9 _ _ _ _ _ F9 a1 a2 a3)
    all_goals first
      | (simp only [List.forall_mem_cons, List.not_mem_nil, false_implies, implies_true, and_true]; omega)
      | (intro h' kk kt
         have rx' := reads_tk' (Keep.tk kk) rx
         have ry' := reads_tk' (Keep.tk kk) ry
         simp only [innerD, hasM, *, Bool.not_true, Bool.not_false, Bool.true_and, Bool.and_true, Bool.false_and, Bool.and_false, cond_true, cond_false, List.append_nil, List.nil_append, List.cons_append]
         first
          | exact rcons (mk3 (kt (_, _) (by k_mem)) rx' ry') .nil
          | exact rcons (mk3 (kt (_, _) (by k_mem)) rx' ry') (rcons (mk3 (kt (_, _) (by k_mem)) rx' ry') .nil)
          | exact rcons (mk3 (kt (_, _) (by k_mem)) rx' ry') (rcons (mk3 (kt (_, _) (by k_mem)) rx' ry') (rcons (mk3 (kt (_, _) (by k_mem)) rx' ry') .nil)))
  · rintro h tk dr m' news' F1 N1 ⟨kf1, wf1, Ts1, add, mf1, mo1, mm1, ms1, rfl, hTs1, hsub1, rfl, rd1, hA1⟩
    have e : ps.take vs.length = ps := List.take_of_length_le (by have := readsAll_len RA; rw [List.length_map] at this; omega)
    rw [e] at rd1
    exact ret h tk dr m' kf1 add Ts1 F1 mf1 ms1 N1 hTs1 hsub1 rd1 hA1
theorem all : ∀ c : (World) × (ExcName → Option Value) × (Str → Option Value) × (Str → Option Value) × (Shared) × (Around) × (Heap) × (Addr) × (Addr) × (Addr) × (Addr) × (Str → Option Value) × (Flow → Shared → Prop) × (Value → Shared → Prop) × (Obj) × (Nat) × (Nat) × (List Value) × (List Value) × (List (PyData × Str)) × (List (Addr × Obj)) × (PyData × Str) × (Value) × (Tok), Wk c.1 c.2.1 c.2.2.1 c.2.2.2.1 c.2.2.2.2.1 c.2.2.2.2.2.1 c.2.2.2.2.2.2.1 c.2.2.2.2.2.2.2.1 c.2.2.2.2.2.2.2.2.1 c.2.2.2.2.2.2.2.2.2.1 c.2.2.2.2.2.2.2.2.2.2.1 c.2.2.2.2.2.2.2.2.2.2.2.1 c.2.2.2.2.2.2.2.2.2.2.2.2.1 c.2.2.2.2.2.2.2.2.2.2.2.2.2.1 c.2.2.2.2.2.2.2.2.2.2.2.2.2.2.1 c.2.2.2.2.2.2.2.2.2.2.2.2.2.2.2.1 c.2.2.2.2.2.2.2.2.2.2.2.2.2.2.2.2.1 c.2.2.2.2.2.2.2.2.2.2.2.2.2.2.2.2.2.1 c.2.2.2.2.2.2.2.2.2.2.2.2.2.2.2.2.2.2.1 c.2.2.2.2.2.2.2.2.2.2.2.2.2.2.2.2.2.2.2.1 c.2.2.2.2.2.2.2.2.2.2.2.2.2.2.2.2.2.2.2.2.1 c.2.2.2.2.2.2.2.2.2.2.2.2.2.2.2.2.2.2.2.2.2.1 c.2.2.2.2.2.2.2.2.2.2.2.2.2.2.2.2.2.2.2.2.2.2.1 c.2.2.2.2.2.2.2.2.2.2.2.2.2.2.2.2.2.2.2.2.2.2.2 := pickA_all (h := inhab) (p := fun c => Wk c.1 c.2.1 c.2.2.1 c.2.2.2.1 c.2.2.2.2.1 c.2.2.2.2.2.1 c.2.2.2.2.2.2.1 c.2.2.2.2.2.2.2.1 c.2.2.2.2.2.2.2.2.1 c.2.2.2.2.2.2.2.2.2.1 c.2.2.2.2.2.2.2.2.2.2.1 c.2.2.2.2.2.2.2.2.2.2.2.1 c.2.2.2.2.2.2.2.2.2.2.2.2.1 c.2.2.2.2.2.2.2.2.2.2.2.2.2.1 c.2.2.2.2.2.2.2.2.2.2.2.2.2.2.1 c.2.2.2.2.2.2.2.2.2.2.2.2.2.2.2.1 c.2.2.2.2.2.2.2.2.2.2.2.2.2.2.2.2.1 c.2.2.2.2.2.2.2.2.2.2.2.2.2.2.2.2.2.1 c.2.2.2.2.2.2.2.2.2.2.2.2.2.2.2.2.2.2.1 c.2.2.2.2.2.2.2.2.2.2.2.2.2.2.2.2.2.2.2.1 c.2.2.2.2.2.2.2.2.2.2.2.2.2.2.2.2.2.2.2.2.1 c.2.2.2.2.2.2.2.2.2.2.2.2.2.2.2.2.2.2.2.2.2.1 c.2.2.2.2.2.2.2.2.2.2.2.2.2.2.2.2.2.2.2.2.2.2.1 c.2.2.2.2.2.2.2.2.2.2.2.2.2.2.2.2.2.2.2.2.2.2.2) (by with_unfolding_all exact @here)
end papers_inner_n
theorem papers_inner {w : World} {mean : ExcName → Option Value} {mg mb : Str → Option Value} {s : Shared} {A : Around} {g : Heap} {L S I Fd : Addr} {m : Str → Option Value} {Q : Flow → Shared → Prop} {E : Value → Shared → Prop} {oI : Obj} {kS kf : Nat} {vs wf : List Value} {ps : List (PyData × Str)} {Ts : List (Addr × Obj)} {p : PyData × Str} {x : Value} {mt : Tok}
    {name qual : Str} {params : Arguments} {s1 s3 b1 b2 b3 inner : Stmt} {t1 it1 : PySem.Expr} {p1 : Pos} {scope : Scope} {dV kV doc pm cdv ct oc : Value} {an od : Option Addr} {osl : Array (Option Value)}
    (hlk : (Mine.hd.heap_39 w.params).lookup 219 = some ⟨oc, od, .func (fnOf name qual params [s1, .For t1 it1 [b1, b2, b3, inner] [] p1, s3] scope dV kV doc pm an cdv ct), osl⟩)
    (hh : A.handled = none) (F : Fr g L s.heap m) (X : (Mine.hd.heap_39 w.params).In g) (T : TopH mean mg mb g)
    (hS : g.get? S = some (listOf vs.toArray kS)) (RA : ReadsAll g vs (ps.map pairD) [])
    (mf : m (Str.ofString "found") = some (.ref Fd)) (mo : m (Str.ofString "one") = some x) (mm : m (Str.ofString "marks") = some (.str p.2 mt)) (ms : m (Str.ofString "some") = some (.ref S))
    (rx : Reads g x p.1 [])
    (N : News g L s.heap ((I, oI) :: (Fd, listOf wf.toArray kf) :: Ts)) (hIF : @Ne Nat I Fd) (hTs : ∀ q ∈ Ts, @Ne Nat q.1 Fd) (hAT : AllTup Ts) (hz : wf.length ≤ 1000) (hps : ps.length = 5)
    (ret : ∀ h tk dr m' kf' add Ts', Fr g L h m' → m' (Str.ofString "found") = some (.ref Fd) → m' (Str.ofString "some") = some (.ref S) → News g L h ((I, oI) :: (Fd, listOf (wf ++ add).toArray kf') :: Ts') → (∀ q ∈ Ts', @Ne Nat q.1 Fd) → (∀ q ∈ Ts, q ∈ Ts') → RdTs g Ts' add (ps.flatMap (innerD p)) → AllTup Ts' → Q .next { s with heap := h, toks := tk, drawn := dr }) :
    wpAny (model PG w) A (exec inner (envOf qual scope L 219 cdv)) Q E s :=
  papers_inner_n.all (w, mean, mg, mb, s, A, g, L, S, I, Fd, m, Q, E, oI, kS, kf, vs, wf, ps, Ts, p, x, mt) name qual params s1 s3 b1 b2 b3 inner t1 it1 p1 scope dV kV doc pm cdv ct oc an od osl hlk hh F X T hS RA mf mo mm ms rx N hIF hTs hAT hz hps ret
end
section
theorem reg_papers20 : True := by
  k_with_none
  k_with "go" => (repeat' ((fail_if_success (with_reducible show Exists _));(fail_if_success (with_reducible show _ ∧ Keeps _ _));(fail_if_success (with_reducible show wpAny _ _ (eval (PySem.Expr.ListComp _ _ _ _) _) _ _ _));(fail_if_success (with_reducible show wpAny _ _ (exec (Stmt.Assign _ (PySem.Expr.ListComp _ _ _ _) _) _) _ _ _));(fail_if_success (with_reducible show wpAny _ _ (exec (Stmt.While _ _ _ _) _) _ _ _));(fail_if_success (with_reducible show wpAny _ _ (exec (Stmt.For _ _ _ _ _) _) _ _ _));first | (k_unfold;(try dsimp only)) | walk1 | (dsimp only;walk1) | fail "no step"))
  k_with "reads" => (first | with_reducible assumption | exact Reads.keeps (Fr.keep (by k_asm)) (by with_reducible assumption) | (refine' readsNew1 ?rF_r1 ?rN_r1 ?rM_r1 ?rR_r1;(case rF_r1 => k_asm);(case rN_r1 => k_asm);(case rM_r1 => k_mem);(case rR_r1 => with_reducible assumption)))
  k_with "call builtin:len" => ((k_here;(with_reducible show wpAny _ _ (call _ [Value.ref _]) _ _ _);k_dflt (refine' lenLst ?N_r2 ?m_r2 ?z_r2 ?_;(case N_r2 => k_asm);(case m_r2 => k_mem);(case z_r2 => first | assumption | omega);k_whole);intro _ _))
  k_with "call builtin:len" => ((k_here;k_dflt (refine' lenTup ?R_r3 ?t_r3 ?z_r3 ?_;(case R_r3 => walk_at "reads");(case t_r3 => assumption);(case z_r3 => first | assumption | omega);k_whole);intro _ _))
  k_with "call builtin:list.pop" => ((k_here;(with_reducible show wpAny _ _ (call _ [Value.ref _]) _ _ _);k_dflt (refine' popLst ?F_r4 ?N_r4 ?U_r4 ?z_r4 ?_;(case F_r4 => k_asm);(case N_r4 => k_asm);(case U_r4 => k_upd);(case z_r4 => first | assumption | omega);k_whole);intro qh' qF' qN'))
  k_with "call builtin:isinstance" => ((k_here;(with_reducible show wpAny _ _ (call _ [_, Value.type "tuple"]) _ _ _);k_dflt (refine' isiTup ?R_r5 ?_ ?_;(case R_r5 => walk_at "reads"));all_goals (intro qhI;(try intro qtkI);(try dsimp only))))
  k_with "call builtin:isinstance" => ((k_here;(with_reducible show wpAny _ _ (call _ [_, Value.type "str"]) _ _ _);k_dflt (refine' isiStr ?R_r6 ?_ ?_;(case R_r6 => walk_at "reads"));all_goals (first | (intro qxI qtI qeI qhI qlI;(try subst qeI);(try dsimp only)) | (intro qhI qtkI;(try dsimp only)))))
  k_with "subscriptTail" => ((k_here;(with_reducible show wpAny _ _ (subscriptTail _ _ _ (Value.int 0 _)) _ _ _);k_dflt (refine' itemB0 ?F_r7 ?R_r7 ?t_r7 ?k_r7 ?_ ?s_r7;(case F_r7 => k_asm);(case R_r7 => with_reducible assumption);(case t_r7 => assumption);(case k_r7 => omega);(case s_r7 => intro _;with_unfolding_all rfl);k_whole);intro qvI qrI;(try dsimp only at qrI);(try (obtain ⟨qtI, qeI⟩ := reads_strE qrI (by with_reducible assumption);subst qeI));(try dsimp only)))
  k_with "subscriptTail" => ((k_here;(with_reducible show wpAny _ _ (subscriptTail _ _ _ (Value.int 1 _)) _ _ _);k_dflt (refine' itemB1 ?F_r8 ?R_r8 ?t_r8 ?k_r8 ?_ ?s_r8;(case F_r8 => k_asm);(case R_r8 => with_reducible assumption);(case t_r8 => assumption);(case k_r8 => omega);(case s_r8 => intro _;with_unfolding_all rfl);k_whole);intro qvI qrI;(try dsimp only at qrI);(try (obtain ⟨qtI, qeI⟩ := reads_strE qrI (by with_reducible assumption);subst qeI));(try dsimp only)))
  k_with "subscriptTail" => ((k_here;(with_reducible show wpAny _ _ (subscriptTail _ _ _ (Value.int 2 _)) _ _ _);k_dflt (refine' itemB2 ?F_r9 ?R_r9 ?t_r9 ?k_r9 ?_ ?s_r9;(case F_r9 => k_asm);(case R_r9 => with_reducible assumption);(case t_r9 => assumption);(case k_r9 => omega);(case s_r9 => intro _;with_unfolding_all rfl);k_whole);intro qvI qrI;(try dsimp only at qrI);(try (obtain ⟨qtI, qeI⟩ := reads_strE qrI (by with_reducible assumption);subst qeI));(try dsimp only)))
  k_with "subscriptTail" => ((k_here;(with_reducible show wpAny _ _ (subscriptTail _ (PySem.Expr.Slice none (some _) none _) (Value.str _ _) _) _ _ _);(k_dflt (refine strCut1 (s := ⟨_, _, _, _, _⟩) (by assumption) (by assumption) ?hsz_r10 ?_));(case hsz_r10 => (rw [sizeLine_eq];omega));intro qh' qt' qk' qF' qN' qkK;(try dsimp only at qkK);(try dsimp only)))
  k_with "subscriptTail Name Slice str ref" => ((k_here;(with_reducible show wpAny _ _ (subscriptTail _ (PySem.Expr.Slice none (some _) none _) (Value.str _ _) _) _ _ _);(k_dflt (refine strCut1 (s := ⟨_, _, _, _, _⟩) (by assumption) (by assumption) ?hsz_r11 ?_));(case hsz_r11 => (rw [sizeLine_eq];omega));intro qh' qt' qk' qF' qN' qkK;(try dsimp only at qkK);(try dsimp only)))
  k_with "subscriptTail" => ((k_here;(with_reducible show wpAny _ _ (subscriptTail _ (PySem.Expr.Slice (some _) none none _) _ (Value.ref _)) _ _ _);(k_dflt (refine' sliceTup1 (s := ⟨_, _, _, _, _⟩) ?F_r12 ?N_r12 ?R_r12 ?t_r12 ?k_r12 ?z_r12 ?_ ?hs_r12 ?hg_r12;(case F_r12 => k_asm);(case N_r12 => k_asm);(case R_r12 => with_reducible assumption);(case t_r12 => assumption);(case k_r12 => omega);(case z_r12 => omega);(case hs_r12 => intro _;with_unfolding_all rfl);(case hg_r12 => intro _ _;with_unfolding_all rfl)));intro qD' qh' qvs' qF' qN' qR' ql1 qe1;(try k_lt ql1);(try dsimp only)))
  k_with "call builtin:list.extend" => ((k_here;(k_dflt (refine' extLst ?F_r13 ?N_r13 ?b_r13 ?U_r13 ?z_r13 ?_;(case F_r13 => k_asm);(case N_r13 => k_asm);(case b_r13 => k_mem);(case U_r13 => intro qk9;k_upd);(case z_r13 => omega)));intro qh' qk' qF' qN';(try dsimp only)))
  k_with "good" => (first | exact good_shaped (by assumption) (by omega) | exact good_shaped (good_filter (by assumption)) (by omega))
  k_with "units" => (first | exact addLt (by assumption) (by decide) | exact addLt1 (c := 3) (by assumption) (by decide) | exact addLt1 (c := 1) (by assumption) (by decide) | exact addLt2 (c := 3) (d := 1) (by assumption) (by decide) | exact addLt2 (c := 3) (d := 3) (by assumption) (by decide) | omega | ((try simp only [Around.deeper_units, units_in1]);omega))
  k_with "compareOp NotEq ref ref" => ((k_here;(with_reducible show wpAny _ _ (compareOp CmpOp.NotEq (Value.ref _) (Value.ref _)) _ _ _);k_dflt (refine' neNil ?F_r16 ?N_r16 ?E_r16 ?RA_r16 ?D_r16 ?a_r16 ?u_r16 ?_;(case F_r16 => k_asm);(case N_r16 => k_asm);(case E_r16 => k_mem);(case D_r16 => k_mem);(case RA_r16 => with_reducible assumption);(case a_r16 => walk_at "good");(case u_r16 => walk_at "units");k_whole);(try dsimp only)))
  k_with "compareOp Eq ref ref" => ((k_here;(with_reducible show wpAny _ _ (compareOp CmpOp.Eq (Value.ref _) (Value.ref _)) _ _ _);k_dflt (refine' eqNil ?F_r17 ?N_r17 ?E_r17 ?RA_r17 ?D_r17 ?a_r17 ?u_r17 ?_;(case F_r17 => k_asm);(case N_r17 => k_asm);(case E_r17 => k_mem);(case D_r17 => k_mem);(case RA_r17 => with_reducible assumption);(case a_r17 => walk_at "good");(case u_r17 => walk_at "units");k_whole);(try dsimp only)))
  k_with "call type:set" => ((k_here;(with_reducible show wpAny _ _ (call (Value.type "set") [Value.ref _]) _ _ _);k_dflt (refine' setStrs ?hh_r18 ?F_r18 ?N_r18 ?D_r18 ?S_r18 ?z_r18 ?_;(case hh_r18 => assumption);(case F_r18 => k_asm);(case N_r18 => k_asm);(case D_r18 => k_mem);(case S_r18 => with_reducible assumption);(case z_r18 => with_reducible assumption));intro qD' qh' qo' qtk' qF' qN' ql1 qsO;(try k_lt ql1);(try dsimp only)))
  k_with "call builtin:sorted" => ((k_here;(with_reducible show wpAny _ _ (call (Value.builtin "sorted") [Value.ref _]) _ _ _);k_dflt (refine' sortedSet ?hh_r19 ?F_r19 ?N_r19 ?D_r19 ?S_r19 ?z_r19 ?_;(case hh_r19 => assumption);(case F_r19 => k_asm);(case N_r19 => k_asm);(case D_r19 => k_mem);(case S_r19 => with_reducible assumption);(case z_r19 => with_reducible assumption));intro qD' qh' qtk' qdr' qvs' qss' qk' qF' qN' ql1 qsA qpA qsS;(try k_lt ql1);(try dsimp only)))
  k_with "compareOp Eq ref ref" => ((k_here;(with_reducible show wpAny _ _ (compareOp CmpOp.Eq (Value.ref _) (Value.ref _)) _ _ _);k_dflt (refine' eqNames ?F_r20 ?N_r20 ?D_r20 ?E_r20 ?SD_r20 ?SE_r20 ?p_r20 ?s_r20 ?ok_r20 ?z_r20 ?u_r20 ?_;(case F_r20 => k_asm);(case N_r20 => k_asm);(case D_r20 => k_mem);(case E_r20 => k_mem);(case SD_r20 => with_reducible assumption);(case SE_r20 => with_reducible assumption);(case p_r20 => with_reducible assumption);(case s_r20 => with_reducible assumption);(case ok_r20 => with_reducible assumption);(case z_r20 => with_reducible assumption);(case u_r20 => walk_at "units");k_whole);(try dsimp only)))
  k_with "room" => (first | exact addLt (by assumption) (by decide) | exact addLt1 (c := 1) (by assumption) (by decide) | exact addLt2 (c := 1) (d := 1) (by assumption) (by decide) | omega | ((try simp only [depth_deeper, depth_in1]);omega))
  k_with "call ref" => ((k_here;k_dflt (refine' plain_ok ?R_r22 ?z_r22 _ _ _ _ _ _ _ _ _ _ ?h1_r22 ?h2_r22 ?h3_r22 ?h4_r22 ?h5_r22 ?h6_r22 ?B_r22 ?F_r22 ?X_r22 ?T_r22 ?_;(case R_r22 => walk_at "reads");(case z_r22 => first | assumption | omega | (simp only [sz, szAll];omega));(case h1_r22 => assumption);(case h2_r22 => first | exact Around.frames_deeper (Below.stack (by assumption)) | assumption);(case h3_r22 => exact rfl);(case h4_r22 => exact rfl);(case h5_r22 => walk_at "room");(case h6_r22 => walk_at "units");(case B_r22 => assumption);(case F_r22 => assumption);(case X_r22 => assumption);(case T_r22 => assumption));intro qv9 qh' qtk' qkK;(try dsimp only at qkK);(rename News _ _ _ _ => qN9);(have qN' := Keep.news qkK qN9);(rename Fr _ _ _ _ => qF9);(have qF9k := fun (_ : True) => Keep.fr qkK qF9);intro qhF' qhP';(have qF' := qF9k True.intro);clear qF9k;(try subst qhP');(try dsimp only)))
  k_with "call ref" => ((k_here;k_dflt (refine' places_ok ?R_r23 ?g_r23 ?sm_r23 _ _ _ _ _ _ _ _ _ _ ?h1_r23 ?h2_r23 ?h3_r23 ?h4_r23 ?h5_r23 ?h6_r23 ?B_r23 ?F_r23 ?X_r23 ?T_r23 ?_;(case R_r23 => walk_at "reads");(case g_r23 => first | assumption | exact good_kids (by assumption) _ (kid_mem (by omega)));(case sm_r23 => assumption);(case h1_r23 => assumption);(case h2_r23 => first | exact Around.frames_deeper (Below.stack (by assumption)) | assumption);(case h3_r23 => exact rfl);(case h4_r23 => exact rfl);(case h5_r23 => walk_at "room");(case h6_r23 => walk_at "units");(case B_r23 => assumption);(case F_r23 => assumption);(case X_r23 => assumption);(case T_r23 => assumption));intro qv9 qh' qtk' qdr' qkK;(try dsimp only at qkK);(rename News _ _ _ _ => qN9);(have qN' := Keep.news qkK qN9);(rename Fr _ _ _ _ => qF9);(have qF9k := fun (_ : True) => Keep.fr qkK qF9);intro qhF' qhP';(have qF' := qF9k True.intro);clear qF9k;(try subst qhP');(try dsimp only)))
  k_with "unpackItems ref" => ((k_here;k_dflt (refine' unpackTup ?F_r24 ?N_r24 ?hh_r24 ?ht_r24 ?hn_r24 ?_;(case F_r24 => k_asm);(case N_r24 => k_asm);(case hh_r24 => assumption);(case ht_r24 => kun_tup);(case hn_r24 => exact rfl);k_whole);intro qh' qF' qN' qkK;(try dsimp only)))
  k_with "go2" => (repeat' ((fail_if_success (with_reducible show Exists _));(fail_if_success (with_reducible show _ ∧ Keeps _ _));(fail_if_success (with_reducible show wpAny _ _ (eval (PySem.Expr.ListComp _ _ _ _) _) _ _ _));(fail_if_success (with_reducible show wpAny _ _ (exec (Stmt.Assign _ (PySem.Expr.ListComp _ _ _ _) _) _) _ _ _));(fail_if_success (with_reducible show wpAny _ _ (exec (Stmt.For _ _ _ _ _) _) _ _ _));first | (k_unfold;(try dsimp only)) | walk1 | (dsimp only;walk1) | fail "no step"))
  k_with "call ref" => ((k_here;k_dflt (refine' form_ok ?R_r26 ?g_r26 ?z_r26 ?sm_r26 _ _ _ _ _ _ _ _ _ _ ?h1_r26 ?h2_r26 ?h3_r26 ?h4_r26 ?h5_r26 ?h6_r26 ?B_r26 ?F_r26 ?X_r26 ?T_r26 ?_;(case R_r26 => walk_at "reads");(case g_r26 => assumption);(case z_r26 => assumption);(case sm_r26 => assumption);(case h1_r26 => assumption);(case h2_r26 => first | exact Around.frames_deeper (Below.stack (by assumption)) | assumption);(case h3_r26 => exact rfl);(case h4_r26 => exact rfl);(case h5_r26 => walk_at "room");(case h6_r26 => walk_at "units");(case B_r26 => assumption);(case F_r26 => assumption);(case X_r26 => assumption);(case T_r26 => assumption));intro qv9 qh' qtk' qdr' qkK;(try dsimp only at qkK);(rename News _ _ _ _ => qN9);(have qN' := Keep.news qkK qN9);(rename Fr _ _ _ _ => qF9);(have qF9k := fun (_ : True) => Keep.fr qkK qF9);intro qhF' qhP';(have qF' := qF9k True.intro);clear qF9k;(try subst qhP');(try dsimp only)))
  k_with "call ref" => ((k_here;k_dflt (refine' parts_ok ?R_r27 ?t_r27 ?l_r27 ?o_r27 _ _ _ _ _ _ _ _ _ _ ?h1_r27 ?h2_r27 ?h3_r27 ?h4_r27 ?h5_r27 ?h6_r27 ?B_r27 ?F_r27 ?X_r27 ?T_r27 ?_;(case R_r27 => walk_at "reads");(case t_r27 => assumption);(case l_r27 => assumption);(case o_r27 => assumption);(case h1_r27 => assumption);(case h2_r27 => first | exact Around.frames_deeper (Below.stack (by assumption)) | assumption);(case h3_r27 => exact rfl);(case h4_r27 => exact rfl);(case h5_r27 => walk_at "room");(case h6_r27 => walk_at "units");(case B_r27 => assumption);(case F_r27 => assumption);(case X_r27 => assumption);(case T_r27 => assumption));intro qv9 qh' qtk' qkK;(try dsimp only at qkK);(rename News _ _ _ _ => qN9);(have qN' := Keep.news qkK qN9);(rename Fr _ _ _ _ => qF9);(have qF9k := fun (_ : True) => Keep.fr qkK qF9);intro qhF' qhP';(have qF' := qF9k True.intro);clear qF9k;(obtain ⟨qT9, qe9, qo9, qn9⟩ := qhP';subst qe9);(try dsimp only at qn9);(have qN'' := newsAdd qF9 qN' qo9 qn9);(have qne9 := newsNe qN9 qn9);clear qN';(simp only [List.forall_mem_cons, List.not_mem_nil, false_implies, implies_true, and_true] at qne9);(try dsimp only)))
  k_with "assign Tuple" => ((k_here;k_dflt (refine' asgPair ?F_r28 ?N_r28 ?hh_r28 ?ht_r28 ?_;(case F_r28 => k_asm);(case N_r28 => k_asm);(case hh_r28 => assumption);(case ht_r28 => kun_tup);k_whole);intro qh' qF' qN' qkK;(try dsimp only)))
  k_with "go3" => (repeat' ((fail_if_success (with_reducible show Exists _));(fail_if_success (with_reducible show _ ∧ Keeps _ _));(fail_if_success (with_reducible show wpAny _ _ (exec (Stmt.Assign _ (PySem.Expr.ListComp _ _ _ _) _) _) _ _ _));(fail_if_success (with_reducible show wpAny _ _ (exec (Stmt.For _ _ _ _ _) _) _ _ _));first | (k_unfold;(try dsimp only)) | walk1 | (dsimp only;walk1) | fail "no step"))
  k_with "call type:enumerate" => ((k_here;(with_reducible show wpAny _ _ (call (Value.type "enumerate") [Value.ref _]) _ _ _);k_dflt (refine' enumT ?F_r30 ?N_r30 ?m_r30 ?_;(case F_r30 => k_asm);(case N_r30 => k_asm);(case m_r30 => k_mem));intro qe qh' qF' qN' qkE;(try dsimp only)))
  k_with "go4" => (repeat' ((fail_if_success (with_reducible show Exists _));(fail_if_success (with_reducible show _ ∧ Keeps _ _));(fail_if_success (with_reducible show wpAny _ _ (eval (PySem.Expr.ListComp _ _ _ _) _) _ _ _));(fail_if_success (with_reducible show wpAny _ _ (exec (Stmt.Assign _ (PySem.Expr.ListComp _ _ _ _) _) _) _ _ _));first | (k_unfold;(try dsimp only)) | walk1 | (dsimp only;walk1) | fail "no step"))
  k_with "call ref" => ((k_here;k_dflt (refine' order_ok ?R_r32 ?g_r32 ?z_r32 ?sm_r32 ?hc_r32 _ _ _ _ _ _ _ _ _ _ ?h1_r32 ?h2_r32 ?h3_r32 ?h4_r32 ?h5_r32 ?h6_r32 ?B_r32 ?F_r32 ?X_r32 ?T_r32 ?_;(case R_r32 => walk_at "reads");(case g_r32 => assumption);(case z_r32 => assumption);(case sm_r32 => assumption);(case hc_r32 => assumption);(case h1_r32 => assumption);(case h2_r32 => first | exact Around.frames_deeper (Below.stack (by assumption)) | assumption);(case h3_r32 => exact rfl);(case h4_r32 => exact rfl);(case h5_r32 => walk_at "room");(case h6_r32 => walk_at "units");(case B_r32 => assumption);(case F_r32 => assumption);(case X_r32 => assumption);(case T_r32 => assumption));intro qv9 qh' qtk' qdr' qkK;(try dsimp only at qkK);(rename News _ _ _ _ => qN9);(have qN' := Keep.news qkK qN9);(rename Fr _ _ _ _ => qF9);(have qF9k := fun (_ : True) => Keep.fr qkK qF9);intro qhF' qhP';(have qF' := qF9k True.intro);clear qF9k;(obtain ⟨qD9, qT9, qP9, qk9, qe9, qoD9, qoT9, qoP9, qnD9, qnT9, qnP9⟩ := qhP';subst qe9);(try dsimp only at qnD9 qnT9 qnP9);(have qNp := newsAdd qF9 qN' qoP9 qnP9);(have qNt := newsAdd qF9 qNp qoT9 qnT9);(have qNd := newsAdd qF9 qNt qoD9 qnD9);(have qneP := newsNe qN9 qnP9);(have qneT := newsNe qN9 qnT9);(have qneD := newsNe qN9 qnD9);(have qnePT := ne3 qoD9 qoT9 qoP9);clear qN' qNp qNt;(simp only [List.forall_mem_cons, List.not_mem_nil, false_implies, implies_true, and_true] at qneP qneT qneD);(try dsimp only)))
  k_with "call ref" => ((k_here;k_dflt (refine' want_raises ?R_r33 ?g_r33 ?z_r33 ?sm_r33 ?form_r33 ?P_r33 _ _ _ _ _ _ _ _ _ _ ?h1_r33 ?h2_r33 ?h3_r33 ?h4_r33 ?h5_r33 ?h6_r33 ?B_r33 ?F_r33 ?X_r33 ?T_r33 ?KD_r33 ?_;(case R_r33 => walk_at "reads");(case g_r33 => assumption);(case z_r33 => assumption);(case sm_r33 => assumption);(case form_r33 => assumption);(case P_r33 => exact ⟨_, News.get (by k_asm) (by k_mem), rfl, _, rfl⟩);(case h1_r33 => assumption);(case h2_r33 => first | exact Around.frames_deeper (Below.stack (by assumption)) | assumption);(case h3_r33 => exact rfl);(case h4_r33 => exact rfl);(case h5_r33 => walk_at "room");(case h6_r33 => walk_at "units");(case B_r33 => assumption);(case F_r33 => assumption);(case X_r33 => assumption);(case T_r33 => assumption);(case KD_r33 => exact ktsKeep (by assumption) (Fr.keep (by k_asm))));intro qe9 qh' qtk' qdr' qth9;(try dsimp only at qth9);(try dsimp only)))
  k_with "k_ne" => ((refine neN ?_;(try dsimp only);first | assumption | exact Ne.symm (by assumption) | exact Nat.ne_of_lt (by assumption) | exact Nat.ne_of_gt (by assumption) | exact (And.left (by assumption)) | exact (Ne.symm (And.left (by assumption))) | exact (Nat.ne_of_lt (And.left (by assumption))) | exact (Nat.ne_of_gt (And.left (by assumption))) | exact (And.left (And.right (by assumption))) | exact (Ne.symm (And.left (And.right (by assumption)))) | exact (Nat.ne_of_lt (And.left (And.right (by assumption)))) | exact (Nat.ne_of_gt (And.left (And.right (by assumption)))) | exact (And.right (by assumption)) | exact (Ne.symm (And.right (by assumption))) | exact (Nat.ne_of_lt (And.right (by assumption))) | exact (Nat.ne_of_gt (And.right (by assumption))) | exact (And.left (And.right (And.right (by assumption)))) | exact (Ne.symm (And.left (And.right (And.right (by assumption))))) | exact (Nat.ne_of_lt (And.left (And.right (And.right (by assumption))))) | exact (Nat.ne_of_gt (And.left (And.right (And.right (by assumption))))) | exact (And.right (And.right (by assumption))) | exact (Ne.symm (And.right (And.right (by assumption)))) | exact (Nat.ne_of_lt (And.right (And.right (by assumption)))) | exact (Nat.ne_of_gt (And.right (And.right (by assumption)))) | exact (And.left (And.right (And.right (And.right (by assumption))))) | exact (Ne.symm (And.left (And.right (And.right (And.right (by assumption)))))) | exact (Nat.ne_of_lt (And.left (And.right (And.right (And.right (by assumption)))))) | exact (Nat.ne_of_gt (And.left (And.right (And.right (And.right (by assumption)))))) | exact (And.right (And.right (And.right (by assumption)))) | exact (Ne.symm (And.right (And.right (And.right (by assumption))))) | exact (Nat.ne_of_lt (And.right (And.right (And.right (by assumption))))) | exact (Nat.ne_of_gt (And.right (And.right (And.right (by assumption))))) | exact (And.left (And.right (And.right (And.right (And.right (by assumption)))))) | exact (Ne.symm (And.left (And.right (And.right (And.right (And.right (by assumption))))))) | exact (Nat.ne_of_lt (And.left (And.right (And.right (And.right (And.right (by assumption))))))) | exact (Nat.ne_of_gt (And.left (And.right (And.right (And.right (And.right (by assumption))))))) | exact (And.right (And.right (And.right (And.right (by assumption))))) | exact (Ne.symm (And.right (And.right (And.right (And.right (by assumption)))))) | exact (Nat.ne_of_lt (And.right (And.right (And.right (And.right (by assumption)))))) | exact (Nat.ne_of_gt (And.right (And.right (And.right (And.right (by assumption)))))) | exact (And.left (And.right (And.right (And.right (And.right (And.right (by assumption))))))) | exact (Ne.symm (And.left (And.right (And.right (And.right (And.right (And.right (by assumption)))))))) | exact (Nat.ne_of_lt (And.left (And.right (And.right (And.right (And.right (And.right (by assumption)))))))) | exact (Nat.ne_of_gt (And.left (And.right (And.right (And.right (And.right (And.right (by assumption)))))))) | exact (And.right (And.right (And.right (And.right (And.right (by assumption)))))) | exact (Ne.symm (And.right (And.right (And.right (And.right (And.right (by assumption))))))) | exact (Nat.ne_of_lt (And.right (And.right (And.right (And.right (And.right (by assumption))))))) | exact (Nat.ne_of_gt (And.right (And.right (And.right (And.right (And.right (by assumption))))))) | exact (And.left (And.right (And.right (And.right (And.right (And.right (And.right (by assumption)))))))) | exact (Ne.symm (And.left (And.right (And.right (And.right (And.right (And.right (And.right (by assumption))))))))) | exact (Nat.ne_of_lt (And.left (And.right (And.right (And.right (And.right (And.right (And.right (by assumption))))))))) | exact (Nat.ne_of_gt (And.left (And.right (And.right (And.right (And.right (And.right (And.right (by assumption))))))))) | exact (And.right (And.right (And.right (And.right (And.right (And.right (by assumption))))))) | exact (Ne.symm (And.right (And.right (And.right (And.right (And.right (And.right (by assumption)))))))) | exact (Nat.ne_of_lt (And.right (And.right (And.right (And.right (And.right (And.right (by assumption)))))))) | exact (Nat.ne_of_gt (And.right (And.right (And.right (And.right (And.right (And.right (by assumption)))))))) | omega))
  k_with "k_ne" => ((refine neN ?_;(try dsimp only);first | assumption | exact Ne.symm (by assumption)))
  k_with "k_all" => (assumption)
  k_with "go9" => (repeat' ((fail_if_success (with_reducible show Exists _));(fail_if_success (with_reducible show _ = Flow.next ∧ _));(fail_if_success (with_reducible show wpAny _ _ (pyIter _) _ _ _));(fail_if_success (with_reducible show wpAny _ _ (exec (Stmt.For _ _ _ _ _) _) _ _ _));first | (k_unfold;(try dsimp only)) | walk1 | (dsimp only;walk1) | fail "no step"))
  trivial
noncomputable def headD (p : PyData × Str) : List PyData :=
  [.tuple [st "turn", p.1]] ++ (bif hasM "m" p.2 then [.tuple [st "same", p.1]] else []) ++ (bif hasM "t" p.2 then [.tuple [st "told", p.1]] else [])
noncomputable def outerD (ps : List (PyData × Str)) (p : PyData × Str) : List PyData := headD p ++ ps.flatMap (innerD p)
noncomputable def papersD (ps : List (PyData × Str)) : List PyData := ps.flatMap (outerD ps)
theorem len_outer (ps : List (PyData × Str)) (h : ps.length = 5) (p : PyData × Str) : (outerD ps p).length ≤ 18 := by
  have e := len_flat (f := innerD p) (n := 3) (len_inner p) ps
  have e2 : (headD p).length ≤ 3 := by unfold headD; cases hasM "m" p.2 <;> cases hasM "t" p.2 <;> simp
  unfold outerD
  rw [List.length_append]; omega
noncomputable def PapOut (g : Heap) (ps : List (PyData × Str)) (S : Addr) (i : Nat) (m : Str → Option Value) (news : List (Addr × Obj)) : Prop :=
  ∃ Fd kf wf Ts, m (Str.ofString "found") = some (.ref Fd) ∧ m (Str.ofString "some") = some (.ref S) ∧ news = (Fd, listOf wf.toArray kf) :: Ts ∧ (∀ q ∈ Ts, @Ne Nat q.1 Fd) ∧ RdTs g Ts wf ((ps.take i).flatMap (outerD ps)) ∧ AllTup Ts
theorem newsFront {g h : Heap} {L : Addr} {a b : Addr × Obj} {Ts : List (Addr × Obj)} (front : List (Addr × Obj)) (N : News g L h (front ++ a :: b :: Ts)) : News g L h (a :: b :: (front ++ Ts)) := fun q hq => N q (by
  rcases List.mem_cons.mp hq with rfl | hq
  · exact List.mem_append_right _ (.head _)
  · rcases List.mem_cons.mp hq with rfl | hq
    · exact List.mem_append_right _ (.tail _ (.head _))
    · rcases List.mem_append.mp hq with hq | hq
      · exact List.mem_append_left _ hq
      · exact List.mem_append_right _ (.tail _ (.tail _ hq)))
theorem off1 {a X : Addr} {o : Obj} (h : @Ne Nat a X) : ∀ q ∈ [(a, o)], @Ne Nat q.1 X := fun q hq => by rw [List.mem_singleton.mp hq]; exact h
theorem off2 {a b X : Addr} {o o2 : Obj} (h : @Ne Nat a X) (h2 : @Ne Nat b X) : ∀ q ∈ [(a, o), (b, o2)], @Ne Nat q.1 X := fun q hq => by
  rcases List.mem_cons.mp hq with rfl | hq
  · exact h
  · exact off1 h2 q hq
theorem off3 {a b c X : Addr} {o o2 o3 : Obj} (h : @Ne Nat a X) (h2 : @Ne Nat b X) (h3 : @Ne Nat c X) : ∀ q ∈ [(a, o), (b, o2), (c, o3)], @Ne Nat q.1 X := fun q hq => by
  rcases List.mem_cons.mp hq with rfl | hq
  · exact h
  · exact off2 h2 h3 q hq
theorem outer_close {g h : Heap} {Ts' Ts1 front : List (Addr × Obj)} {wf addv add : List Value} {ps : List (PyData × Str)} {p : PyData × Str} {I Fd S L : Addr} {oI : Obj} {i k : Nat} {m : Str → Option Value} {P : Prop}
    (hp : ps[i]? = some p) (rd1 : RdTs g Ts1 wf ((ps.take i).flatMap (outerD ps))) (hrd : ∀ h, Keep g h → (∀ q ∈ front, h.get? q.1 = some q.2) → ReadsAll h addv (headD p) [])
    (N : News g L h ((I, oI) :: (Fd, listOf ((wf ++ addv) ++ add).toArray k) :: Ts')) (hTs : ∀ q ∈ Ts', @Ne Nat q.1 Fd) (hsub : ∀ q ∈ front ++ Ts1, q ∈ Ts') (rd : RdTs g Ts' add (ps.flatMap (innerD p))) (hIc : oI.cls ≠ .type "tuple") (hFI : @Ne Nat Fd I) (hA : AllTup Ts')
    (mf : m (Str.ofString "found") = some (.ref Fd)) (ms : m (Str.ofString "some") = some (.ref S))
    (hP : ∀ news', News g L h ((I, oI) :: news') → (∀ q ∈ news', @Ne Nat q.1 I) → PapOut g ps S (i + 1) m news' → P) : P := by
  refine hP ((Fd, listOf ((wf ++ addv) ++ add).toArray k) :: Ts') N (fun q hq => ?_) ⟨Fd, k, _, Ts', mf, ms, rfl, hTs, fun h' kk kt => ?_, hA⟩
  · rcases List.mem_cons.mp hq with rfl | hq
    · exact hFI
    · exact tsNe N (.head _) (fun q hq => .tail _ (.tail _ hq)) hA hIc q hq
  · rw [take_snoc hp, List.flatMap_append]
    rw [List.append_assoc]
    refine readsAll_app (rd1 h' kk fun q hq => kt q (hsub q (List.mem_append_right _ hq))) ?_
    have e : List.flatMap (outerD ps) [p] = headD p ++ ps.flatMap (innerD p) := by simp [outerD]
    rw [e]
    exact readsAll_app (hrd h' kk fun q hq => kt q (hsub q (List.mem_append_left _ hq))) (rd h' kk kt)
namespace papers_ok_n
noncomputable def Wk (w : World) (mean : ExcName → Option Value) (mg : Str → Option Value) (mb : Str → Option Value) (s : Shared) (A : Around) (base : Heap) (outer : List Env) (L' : Addr) (h₁ : Heap) : Prop := ∀ (S : Addr) (kS : Nat) (vs : List Value) (ps : List (PyData × Str)) (hS : s.heap.get? S = some (listOf vs.toArray kS)) (RA : ReadsAll s.heap vs (ps.map pairD) []) (hps : ps.length = 5), EntP (PostF s (fun h' r => ∃ Rw ws k, r = .ref Rw ∧ h'.get? Rw = some (listOf ws.toArray k) ∧ s.heap.get? Rw = none ∧ ReadsAll h' ws (papersD ps) [])) w mean mg mb s A base outer L' h₁ 3 300 [(Str.ofString "some", .ref S)] (envAt 219 L') (stAt 219)
theorem inhab : Nonempty ((World) × (ExcName → Option Value) × (Str → Option Value) × (Str → Option Value) × (Shared) × (Around) × (Heap) × (List Env) × (Addr) × (Heap)) := ⟨((aWorld 1), (fun _ => none), (fun _ => none), (fun _ => none), ({}), ({}), ({}), ([]), (0), ({}))⟩
noncomputable def cc : (World) × (ExcName → Option Value) × (Str → Option Value) × (Str → Option Value) × (Shared) × (Around) × (Heap) × (List Env) × (Addr) × (Heap) := pickA inhab fun c => Wk c.1 c.2.1 c.2.2.1 c.2.2.2.1 c.2.2.2.2.1 c.2.2.2.2.2.1 c.2.2.2.2.2.2.1 c.2.2.2.2.2.2.2.1 c.2.2.2.2.2.2.2.2.1 c.2.2.2.2.2.2.2.2.2
@[irreducible] noncomputable def w : World := cc.1
@[irreducible] noncomputable def mean : ExcName → Option Value := cc.2.1
@[irreducible] noncomputable def mg : Str → Option Value := cc.2.2.1
@[irreducible] noncomputable def mb : Str → Option Value := cc.2.2.2.1
@[irreducible] noncomputable def s : Shared := cc.2.2.2.2.1
@[irreducible] noncomputable def A : Around := cc.2.2.2.2.2.1
@[irreducible] noncomputable def base : Heap := cc.2.2.2.2.2.2.1
@[irreducible] noncomputable def outer : List Env := cc.2.2.2.2.2.2.2.1
@[irreducible] noncomputable def L' : Addr := cc.2.2.2.2.2.2.2.2.1
@[irreducible] noncomputable def h₁ : Heap := cc.2.2.2.2.2.2.2.2.2
theorem here : Wk w mean mg mb s A base outer L' h₁ := by
  (have hFill : ∀ P : Params, (Mine.hd.heap_39 P = Mine.hd.heap_39 P) ∧ PySem.Challenge.rw_rg0113_01 = PySem.Challenge.rw_rg0113_01 := (by k_fill; exact fillK); clear hFill)
  unfold Wk
  intro S kS vs ps hS RA hps
  refine lit_at (f := 219) (L := L') (p := EntP (PostF s (fun h' r => ∃ Rw ws k, r = .ref Rw ∧ h'.get? Rw = some (listOf ws.toArray k) ∧ s.heap.get? Rw = none ∧ ReadsAll h' ws (papersD ps) [])) w mean mg mb s A base outer L' h₁ 3 300 [(Str.ofString "some", .ref S)]) (by k_is) ?_
  intro hh hd hu F1 B1 X1 T1 N1
  (try dsimp only)
  walk_at "go9"; all_goals (try k_data)
  all_goals (try dsimp only)
  k_dflt (refine' forCore (g := s.heap) (L := L') vs.length (fun i v => vs[i]? = some v) (fun h => h.get? S = some (listOf vs.toArray kS)) (PapOut s.heap ps S) ?n1 ?n2; (case n1 => intro _; with_unfolding_all rfl))
  intro R1 close1
  walk_at "go9"; all_goals (try k_data)
  all_goals (try dsimp only)
  rename Fr _ _ _ _ => F2
  rename News _ _ _ _ => N2
  refine srcList (g := s.heap) (L := L') (s := ⟨_, _, _, _, _⟩) (by assumption) (F2.keep _ _ hS) F2 N2 fun I fp St h9 k9 ls hit => ?_
  refine close1 _ I fp St _ _ ls ?_ (fun _ _ _ _ hJ F9 _ => F9.keep _ _ hS) ?_ ?_
  · exact ⟨_, 0, [], [], rfl, rfl, rfl, by simp, fun _ _ _ => by simpa using ReadsAll.nil, fun p hp => nomatch hp⟩
  · rintro i v m₁ news₁ oI h tk dr R9 close9 hi hv ⟨Fd, kf, wf, Ts, mf, ms, rfl, hTs, rd1, hA1⟩ off F1 N1 hIc hst
    obtain ⟨q, hq, rq⟩ := readsAll_item RA hv
    obtain ⟨i2, hst2⟩ := hst
    obtain ⟨l2, j2, hit2⟩ := hit _ _ hst2
    rw [List.getElem?_map] at hq
    obtain ⟨p, hp, rfl⟩ := Option.map_eq_some_iff.mp hq
    obtain ⟨Ta, x, mt, rfl, hTa, rx⟩ := pair_open rq
    refine wpAny_letOwnedTupleGo_listiter (s := ⟨_, _, _, _, _⟩) hit2 ?_
    have F1 := frPin2 F1 mf ms
    k_dflt (refine' asgPair (s := ⟨_, _, _, _, _⟩) F1 N1 (by assumption) (IsTup.keeps hTa F1.keep) ?_)
    intro h3 F3 N3 k3
    clear F1 N1
    have o1 := off _ (.head _)
    have o3 : ∀ q ∈ Ts, @Ne Nat q.1 I := fun q hq => off q (.tail _ hq)
    have hz1 : wf.length ≤ 900 := by
      have e1 := readsAll_len (rd1 _ F3.keep fun q hq => (N3 _ (.tail _ (.tail _ hq))).1)
      have e2 := len_flat (f := outerD ps) (n := 18) (len_outer ps hps) (ps.take i)
      have e3 : (ps.take i).length ≤ ps.length := by rw [List.length_take]; exact Nat.min_le_right _ _
      omega
    (try dsimp only)
    walk_at "go9"; all_goals (try k_data)
    all_goals (try dsimp only)
    all_goals (rename News _ _ _ _ => N9; rename Fr _ _ _ _ => F9)
    all_goals first
      | (rw [pushed3] at N9
         have N10 := newsFront [_, _, _] N9
         refine papers_inner (p := p) (by k_is) (by assumption) F9 X1 T1 hS RA rfl rfl rfl rfl rx N10 (Ne.symm o1) ?_ (fun q hq => (List.mem_append.mp hq).elim (allT3 q) (hA1 q)) ?_ hps fun h4 tk4 dr4 m4 kf4 add Ts4 F4 mf4 ms4 N4 hTs4 hsub4 rd4 hA4 => ?_)
      | (rw [pushed2] at N9
         have N10 := newsFront [_, _] N9
         refine papers_inner (p := p) (by k_is) (by assumption) F9 X1 T1 hS RA rfl rfl rfl rfl rx N10 (Ne.symm o1) ?_ (fun q hq => (List.mem_append.mp hq).elim (allT2 q) (hA1 q)) ?_ hps fun h4 tk4 dr4 m4 kf4 add Ts4 F4 mf4 ms4 N4 hTs4 hsub4 rd4 hA4 => ?_)
      | (rw [pushed1] at N9
         have N10 := newsFront [_] N9
         refine papers_inner (p := p) (by k_is) (by assumption) F9 X1 T1 hS RA rfl rfl rfl rfl rx N10 (Ne.symm o1) ?_ (fun q hq => (List.mem_append.mp hq).elim (allT1 q) (hA1 q)) ?_ hps fun h4 tk4 dr4 m4 kf4 add Ts4 F4 mf4 ms4 N4 hTs4 hsub4 rd4 hA4 => ?_)
    all_goals first
      | (simp only [List.length_append, List.length_cons, List.length_nil]; omega)
      | (intro q hq
         rcases List.mem_append.mp hq with hq | hq
         · first
            | exact off3 (by omega) (by omega) (by omega) q hq
            | exact off2 (by omega) (by omega) q hq
            | exact off1 (by omega) q hq
         · exact hTs q hq)
      | (walk_at "go9"
         refine outer_close (front := _) hp rd1 ?_ N4 hTs4 hsub4 rd4 hIc o1 hA4 mf4 ms4 fun news' a1 a2 a3 => close9 _ _ _ _ _ F4 a1 a2 a3
         intro h' kk kt
         have rx' := reads_tk' (Keep.tk kk) rx
         simp only [headD, hasM, *, Bool.not_true, Bool.not_false, cond_true, cond_false, List.append_nil, List.nil_append, List.cons_append]
         first
          | exact rcons (mk2 (kt (_, _) (by k_mem)) rx') .nil
          | exact rcons (mk2 (kt (_, _) (by k_mem)) rx') (rcons (mk2 (kt (_, _) (by k_mem)) rx') .nil)
          | exact rcons (mk2 (kt (_, _) (by k_mem)) rx') (rcons (mk2 (kt (_, _) (by k_mem)) rx') (rcons (mk2 (kt (_, _) (by k_mem)) rx') .nil)))
  · rintro h tk dr m' news' F1 N1 ⟨Fd, kf, wf, Ts, mf, ms, rfl, hTs, rd1, hA1⟩
    have e : ps.take vs.length = ps := List.take_of_length_le (by have := readsAll_len RA; rw [List.length_map] at this; omega)
    rw [e] at rd1
    have F1 := frPin2 F1 mf ms
    walk_at "go9"; all_goals (try k_data)
    all_goals (try dsimp only)
    exact ⟨_, h, tk, dr, rfl, F1.keep, rfl, Fd, wf, kf, rfl, (N1 _ (.head _)).1, (N1 _ (.head _)).2.2, rd1 h F1.keep (fun p hp => (N1 _ (.tail _ hp)).1)⟩
theorem all : ∀ c : (World) × (ExcName → Option Value) × (Str → Option Value) × (Str → Option Value) × (Shared) × (Around) × (Heap) × (List Env) × (Addr) × (Heap), Wk c.1 c.2.1 c.2.2.1 c.2.2.2.1 c.2.2.2.2.1 c.2.2.2.2.2.1 c.2.2.2.2.2.2.1 c.2.2.2.2.2.2.2.1 c.2.2.2.2.2.2.2.2.1 c.2.2.2.2.2.2.2.2.2 := pickA_all (h := inhab) (p := fun c => Wk c.1 c.2.1 c.2.2.1 c.2.2.2.1 c.2.2.2.2.1 c.2.2.2.2.2.1 c.2.2.2.2.2.2.1 c.2.2.2.2.2.2.2.1 c.2.2.2.2.2.2.2.2.1 c.2.2.2.2.2.2.2.2.2) (by with_unfolding_all exact @here)
end papers_ok_n
theorem papers_ok {w : World} {mean : ExcName → Option Value} {mg mb : Str → Option Value} {s : Shared} {S : Addr} {kS : Nat} {vs : List Value} {ps : List (PyData × Str)} (hS : s.heap.get? S = some (listOf vs.toArray kS)) (RA : ReadsAll s.heap vs (ps.map pairD) []) (hps : ps.length = 5) :
    Pure w mean mg mb 219 [.ref S] 3 300 s (fun h' r => ∃ Rw ws k, r = .ref Rw ∧ h'.get? Rw = some (listOf ws.toArray k) ∧ s.heap.get? Rw = none ∧ ReadsAll h' ws (papersD ps) []) := by
  (have hFill : ∀ P : Params, (Mine.hd.heap_39 P = Mine.hd.heap_39 P) ∧ PySem.Challenge.rw_rg0113_01 = PySem.Challenge.rw_rg0113_01 := (by k_fill; exact fillK); clear hFill)
  k_dflt (refine' pure_enter [(Str.ofString "some", .ref S)] ?k6 ?k7 ?k9 ?kB (by decide) ?c5 ?c2 ?c3 ?c4 ?_; (case k6 => k_is); (case k7 => k_is); (case k9 => exact BindsTo.of_eq rfl); (case kB => exact locs rfl); (case c5 => decide); (case c2 => exact rfl); (case c3 => exact rfl); (case c4 => exact rfl))
  intro A base outer L' h₁ hh hd hu F1 B1 X1 T1 N1
  exact papers_ok_n.all (w, mean, mg, mb, s, A, base, outer, L', h₁) S kS vs ps hS RA hps hh hd hu F1 B1 X1 T1 N1
end
section
theorem reg_tail0 : True := by
  k_with_none
  k_with "go" => (repeat' ((fail_if_success (with_reducible show Exists _));(fail_if_success (with_reducible show _ ∧ Keeps _ _));(fail_if_success (with_reducible show wpAny _ _ (eval (PySem.Expr.ListComp _ _ _ _) _) _ _ _));(fail_if_success (with_reducible show wpAny _ _ (exec (Stmt.Assign _ (PySem.Expr.ListComp _ _ _ _) _) _) _ _ _));(fail_if_success (with_reducible show wpAny _ _ (exec (Stmt.While _ _ _ _) _) _ _ _));(fail_if_success (with_reducible show wpAny _ _ (exec (Stmt.For _ _ _ _ _) _) _ _ _));first | (k_unfold;(try dsimp only)) | walk1 | (dsimp only;walk1) | fail "no step"))
  k_with "reads" => (first | with_reducible assumption | exact Reads.keeps (Fr.keep (by k_asm)) (by with_reducible assumption) | (refine' readsNew1 ?rF_r1 ?rN_r1 ?rM_r1 ?rR_r1;(case rF_r1 => k_asm);(case rN_r1 => k_asm);(case rM_r1 => k_mem);(case rR_r1 => with_reducible assumption)))
  k_with "call builtin:len" => ((k_here;(with_reducible show wpAny _ _ (call _ [Value.ref _]) _ _ _);k_dflt (refine' lenLst ?N_r2 ?m_r2 ?z_r2 ?_;(case N_r2 => k_asm);(case m_r2 => k_mem);(case z_r2 => first | assumption | omega);k_whole);intro _ _))
  k_with "call builtin:len" => ((k_here;k_dflt (refine' lenTup ?R_r3 ?t_r3 ?z_r3 ?_;(case R_r3 => walk_at "reads");(case t_r3 => assumption);(case z_r3 => first | assumption | omega);k_whole);intro _ _))
  k_with "call builtin:list.pop" => ((k_here;(with_reducible show wpAny _ _ (call _ [Value.ref _]) _ _ _);k_dflt (refine' popLst ?F_r4 ?N_r4 ?U_r4 ?z_r4 ?_;(case F_r4 => k_asm);(case N_r4 => k_asm);(case U_r4 => k_upd);(case z_r4 => first | assumption | omega);k_whole);intro qh' qF' qN'))
  k_with "call builtin:isinstance" => ((k_here;(with_reducible show wpAny _ _ (call _ [_, Value.type "tuple"]) _ _ _);k_dflt (refine' isiTup ?R_r5 ?_ ?_;(case R_r5 => walk_at "reads"));all_goals (intro qhI;(try intro qtkI);(try dsimp only))))
  k_with "call builtin:isinstance" => ((k_here;(with_reducible show wpAny _ _ (call _ [_, Value.type "str"]) _ _ _);k_dflt (refine' isiStr ?R_r6 ?_ ?_;(case R_r6 => walk_at "reads"));all_goals (first | (intro qxI qtI qeI qhI qlI;(try subst qeI);(try dsimp only)) | (intro qhI qtkI;(try dsimp only)))))
  k_with "subscriptTail" => ((k_here;(with_reducible show wpAny _ _ (subscriptTail _ _ _ (Value.int 0 _)) _ _ _);k_dflt (refine' itemB0 ?F_r7 ?R_r7 ?t_r7 ?k_r7 ?_ ?s_r7;(case F_r7 => k_asm);(case R_r7 => with_reducible assumption);(case t_r7 => assumption);(case k_r7 => omega);(case s_r7 => intro _;with_unfolding_all rfl);k_whole);intro qvI qrI;(try dsimp only at qrI);(try (obtain ⟨qtI, qeI⟩ := reads_strE qrI (by with_reducible assumption);subst qeI));(try dsimp only)))
  k_with "subscriptTail" => ((k_here;(with_reducible show wpAny _ _ (subscriptTail _ _ _ (Value.int 1 _)) _ _ _);k_dflt (refine' itemB1 ?F_r8 ?R_r8 ?t_r8 ?k_r8 ?_ ?s_r8;(case F_r8 => k_asm);(case R_r8 => with_reducible assumption);(case t_r8 => assumption);(case k_r8 => omega);(case s_r8 => intro _;with_unfolding_all rfl);k_whole);intro qvI qrI;(try dsimp only at qrI);(try (obtain ⟨qtI, qeI⟩ := reads_strE qrI (by with_reducible assumption);subst qeI));(try dsimp only)))
  k_with "subscriptTail" => ((k_here;(with_reducible show wpAny _ _ (subscriptTail _ _ _ (Value.int 2 _)) _ _ _);k_dflt (refine' itemB2 ?F_r9 ?R_r9 ?t_r9 ?k_r9 ?_ ?s_r9;(case F_r9 => k_asm);(case R_r9 => with_reducible assumption);(case t_r9 => assumption);(case k_r9 => omega);(case s_r9 => intro _;with_unfolding_all rfl);k_whole);intro qvI qrI;(try dsimp only at qrI);(try (obtain ⟨qtI, qeI⟩ := reads_strE qrI (by with_reducible assumption);subst qeI));(try dsimp only)))
  k_with "subscriptTail" => ((k_here;(with_reducible show wpAny _ _ (subscriptTail _ (PySem.Expr.Slice none (some _) none _) (Value.str _ _) _) _ _ _);(k_dflt (refine strCut1 (s := ⟨_, _, _, _, _⟩) (by assumption) (by assumption) ?hsz_r10 ?_));(case hsz_r10 => (rw [sizeLine_eq];omega));intro qh' qt' qk' qF' qN' qkK;(try dsimp only at qkK);(try dsimp only)))
  k_with "subscriptTail Name Slice str ref" => ((k_here;(with_reducible show wpAny _ _ (subscriptTail _ (PySem.Expr.Slice none (some _) none _) (Value.str _ _) _) _ _ _);(k_dflt (refine strCut1 (s := ⟨_, _, _, _, _⟩) (by assumption) (by assumption) ?hsz_r11 ?_));(case hsz_r11 => (rw [sizeLine_eq];omega));intro qh' qt' qk' qF' qN' qkK;(try dsimp only at qkK);(try dsimp only)))
  k_with "subscriptTail" => ((k_here;(with_reducible show wpAny _ _ (subscriptTail _ (PySem.Expr.Slice (some _) none none _) _ (Value.ref _)) _ _ _);(k_dflt (refine' sliceTup1 (s := ⟨_, _, _, _, _⟩) ?F_r12 ?N_r12 ?R_r12 ?t_r12 ?k_r12 ?z_r12 ?_ ?hs_r12 ?hg_r12;(case F_r12 => k_asm);(case N_r12 => k_asm);(case R_r12 => with_reducible assumption);(case t_r12 => assumption);(case k_r12 => omega);(case z_r12 => omega);(case hs_r12 => intro _;with_unfolding_all rfl);(case hg_r12 => intro _ _;with_unfolding_all rfl)));intro qD' qh' qvs' qF' qN' qR' ql1 qe1;(try k_lt ql1);(try dsimp only)))
  k_with "call builtin:list.extend" => ((k_here;(k_dflt (refine' extLst ?F_r13 ?N_r13 ?b_r13 ?U_r13 ?z_r13 ?_;(case F_r13 => k_asm);(case N_r13 => k_asm);(case b_r13 => k_mem);(case U_r13 => intro qk9;k_upd);(case z_r13 => omega)));intro qh' qk' qF' qN';(try dsimp only)))
  k_with "good" => (first | exact good_shaped (by assumption) (by omega) | exact good_shaped (good_filter (by assumption)) (by omega))
  k_with "units" => (first | exact addLt (by assumption) (by decide) | exact addLt1 (c := 3) (by assumption) (by decide) | exact addLt1 (c := 1) (by assumption) (by decide) | exact addLt2 (c := 3) (d := 1) (by assumption) (by decide) | exact addLt2 (c := 3) (d := 3) (by assumption) (by decide) | omega | ((try simp only [Around.deeper_units, units_in1]);omega))
  k_with "compareOp NotEq ref ref" => ((k_here;(with_reducible show wpAny _ _ (compareOp CmpOp.NotEq (Value.ref _) (Value.ref _)) _ _ _);k_dflt (refine' neNil ?F_r16 ?N_r16 ?E_r16 ?RA_r16 ?D_r16 ?a_r16 ?u_r16 ?_;(case F_r16 => k_asm);(case N_r16 => k_asm);(case E_r16 => k_mem);(case D_r16 => k_mem);(case RA_r16 => with_reducible assumption);(case a_r16 => walk_at "good");(case u_r16 => walk_at "units");k_whole);(try dsimp only)))
  k_with "compareOp Eq ref ref" => ((k_here;(with_reducible show wpAny _ _ (compareOp CmpOp.Eq (Value.ref _) (Value.ref _)) _ _ _);k_dflt (refine' eqNil ?F_r17 ?N_r17 ?E_r17 ?RA_r17 ?D_r17 ?a_r17 ?u_r17 ?_;(case F_r17 => k_asm);(case N_r17 => k_asm);(case E_r17 => k_mem);(case D_r17 => k_mem);(case RA_r17 => with_reducible assumption);(case a_r17 => walk_at "good");(case u_r17 => walk_at "units");k_whole);(try dsimp only)))
  k_with "call type:set" => ((k_here;(with_reducible show wpAny _ _ (call (Value.type "set") [Value.ref _]) _ _ _);k_dflt (refine' setStrs ?hh_r18 ?F_r18 ?N_r18 ?D_r18 ?S_r18 ?z_r18 ?_;(case hh_r18 => assumption);(case F_r18 => k_asm);(case N_r18 => k_asm);(case D_r18 => k_mem);(case S_r18 => with_reducible assumption);(case z_r18 => with_reducible assumption));intro qD' qh' qo' qtk' qF' qN' ql1 qsO;(try k_lt ql1);(try dsimp only)))
  k_with "call builtin:sorted" => ((k_here;(with_reducible show wpAny _ _ (call (Value.builtin "sorted") [Value.ref _]) _ _ _);k_dflt (refine' sortedSet ?hh_r19 ?F_r19 ?N_r19 ?D_r19 ?S_r19 ?z_r19 ?_;(case hh_r19 => assumption);(case F_r19 => k_asm);(case N_r19 => k_asm);(case D_r19 => k_mem);(case S_r19 => with_reducible assumption);(case z_r19 => with_reducible assumption));intro qD' qh' qtk' qdr' qvs' qss' qk' qF' qN' ql1 qsA qpA qsS;(try k_lt ql1);(try dsimp only)))
  k_with "compareOp Eq ref ref" => ((k_here;(with_reducible show wpAny _ _ (compareOp CmpOp.Eq (Value.ref _) (Value.ref _)) _ _ _);k_dflt (refine' eqNames ?F_r20 ?N_r20 ?D_r20 ?E_r20 ?SD_r20 ?SE_r20 ?p_r20 ?s_r20 ?ok_r20 ?z_r20 ?u_r20 ?_;(case F_r20 => k_asm);(case N_r20 => k_asm);(case D_r20 => k_mem);(case E_r20 => k_mem);(case SD_r20 => with_reducible assumption);(case SE_r20 => with_reducible assumption);(case p_r20 => with_reducible assumption);(case s_r20 => with_reducible assumption);(case ok_r20 => with_reducible assumption);(case z_r20 => with_reducible assumption);(case u_r20 => walk_at "units");k_whole);(try dsimp only)))
  k_with "room" => (first | exact addLt (by assumption) (by decide) | exact addLt1 (c := 1) (by assumption) (by decide) | exact addLt2 (c := 1) (d := 1) (by assumption) (by decide) | omega | ((try simp only [depth_deeper, depth_in1]);omega))
  k_with "call ref" => ((k_here;k_dflt (refine' plain_ok ?R_r22 ?z_r22 _ _ _ _ _ _ _ _ _ _ ?h1_r22 ?h2_r22 ?h3_r22 ?h4_r22 ?h5_r22 ?h6_r22 ?B_r22 ?F_r22 ?X_r22 ?T_r22 ?_;(case R_r22 => walk_at "reads");(case z_r22 => first | assumption | omega | (simp only [sz, szAll];omega));(case h1_r22 => assumption);(case h2_r22 => first | exact Around.frames_deeper (Below.stack (by assumption)) | assumption);(case h3_r22 => exact rfl);(case h4_r22 => exact rfl);(case h5_r22 => walk_at "room");(case h6_r22 => walk_at "units");(case B_r22 => assumption);(case F_r22 => assumption);(case X_r22 => assumption);(case T_r22 => assumption));intro qv9 qh' qtk' qkK;(try dsimp only at qkK);(rename News _ _ _ _ => qN9);(have qN' := Keep.news qkK qN9);(rename Fr _ _ _ _ => qF9);(have qF9k := fun (_ : True) => Keep.fr qkK qF9);intro qhF' qhP';(have qF' := qF9k True.intro);clear qF9k;(try subst qhP');(try dsimp only)))
  k_with "call ref" => ((k_here;k_dflt (refine' places_ok ?R_r23 ?g_r23 ?sm_r23 _ _ _ _ _ _ _ _ _ _ ?h1_r23 ?h2_r23 ?h3_r23 ?h4_r23 ?h5_r23 ?h6_r23 ?B_r23 ?F_r23 ?X_r23 ?T_r23 ?_;(case R_r23 => walk_at "reads");(case g_r23 => first | assumption | exact good_kids (by assumption) _ (kid_mem (by omega)));(case sm_r23 => assumption);(case h1_r23 => assumption);(case h2_r23 => first | exact Around.frames_deeper (Below.stack (by assumption)) | assumption);(case h3_r23 => exact rfl);(case h4_r23 => exact rfl);(case h5_r23 => walk_at "room");(case h6_r23 => walk_at "units");(case B_r23 => assumption);(case F_r23 => assumption);(case X_r23 => assumption);(case T_r23 => assumption));intro qv9 qh' qtk' qdr' qkK;(try dsimp only at qkK);(rename News _ _ _ _ => qN9);(have qN' := Keep.news qkK qN9);(rename Fr _ _ _ _ => qF9);(have qF9k := fun (_ : True) => Keep.fr qkK qF9);intro qhF' qhP';(have qF' := qF9k True.intro);clear qF9k;(try subst qhP');(try dsimp only)))
  k_with "unpackItems ref" => ((k_here;k_dflt (refine' unpackTup ?F_r24 ?N_r24 ?hh_r24 ?ht_r24 ?hn_r24 ?_;(case F_r24 => k_asm);(case N_r24 => k_asm);(case hh_r24 => assumption);(case ht_r24 => kun_tup);(case hn_r24 => exact rfl);k_whole);intro qh' qF' qN' qkK;(try dsimp only)))
  k_with "go2" => (repeat' ((fail_if_success (with_reducible show Exists _));(fail_if_success (with_reducible show _ ∧ Keeps _ _));(fail_if_success (with_reducible show wpAny _ _ (eval (PySem.Expr.ListComp _ _ _ _) _) _ _ _));(fail_if_success (with_reducible show wpAny _ _ (exec (Stmt.Assign _ (PySem.Expr.ListComp _ _ _ _) _) _) _ _ _));(fail_if_success (with_reducible show wpAny _ _ (exec (Stmt.For _ _ _ _ _) _) _ _ _));first | (k_unfold;(try dsimp only)) | walk1 | (dsimp only;walk1) | fail "no step"))
  k_with "call ref" => ((k_here;k_dflt (refine' form_ok ?R_r26 ?g_r26 ?z_r26 ?sm_r26 _ _ _ _ _ _ _ _ _ _ ?h1_r26 ?h2_r26 ?h3_r26 ?h4_r26 ?h5_r26 ?h6_r26 ?B_r26 ?F_r26 ?X_r26 ?T_r26 ?_;(case R_r26 => walk_at "reads");(case g_r26 => assumption);(case z_r26 => assumption);(case sm_r26 => assumption);(case h1_r26 => assumption);(case h2_r26 => first | exact Around.frames_deeper (Below.stack (by assumption)) | assumption);(case h3_r26 => exact rfl);(case h4_r26 => exact rfl);(case h5_r26 => walk_at "room");(case h6_r26 => walk_at "units");(case B_r26 => assumption);(case F_r26 => assumption);(case X_r26 => assumption);(case T_r26 => assumption));intro qv9 qh' qtk' qdr' qkK;(try dsimp only at qkK);(rename News _ _ _ _ => qN9);(have qN' := Keep.news qkK qN9);(rename Fr _ _ _ _ => qF9);(have qF9k := fun (_ : True) => Keep.fr qkK qF9);intro qhF' qhP';(have qF' := qF9k True.intro);clear qF9k;(try subst qhP');(try dsimp only)))
  k_with "call ref" => ((k_here;k_dflt (refine' parts_ok ?R_r27 ?t_r27 ?l_r27 ?o_r27 _ _ _ _ _ _ _ _ _ _ ?h1_r27 ?h2_r27 ?h3_r27 ?h4_r27 ?h5_r27 ?h6_r27 ?B_r27 ?F_r27 ?X_r27 ?T_r27 ?_;(case R_r27 => walk_at "reads");(case t_r27 => assumption);(case l_r27 => assumption);(case o_r27 => assumption);(case h1_r27 => assumption);(case h2_r27 => first | exact Around.frames_deeper (Below.stack (by assumption)) | assumption);(case h3_r27 => exact rfl);(case h4_r27 => exact rfl);(case h5_r27 => walk_at "room");(case h6_r27 => walk_at "units");(case B_r27 => assumption);(case F_r27 => assumption);(case X_r27 => assumption);(case T_r27 => assumption));intro qv9 qh' qtk' qkK;(try dsimp only at qkK);(rename News _ _ _ _ => qN9);(have qN' := Keep.news qkK qN9);(rename Fr _ _ _ _ => qF9);(have qF9k := fun (_ : True) => Keep.fr qkK qF9);intro qhF' qhP';(have qF' := qF9k True.intro);clear qF9k;(obtain ⟨qT9, qe9, qo9, qn9⟩ := qhP';subst qe9);(try dsimp only at qn9);(have qN'' := newsAdd qF9 qN' qo9 qn9);(have qne9 := newsNe qN9 qn9);clear qN';(simp only [List.forall_mem_cons, List.not_mem_nil, false_implies, implies_true, and_true] at qne9);(try dsimp only)))
  k_with "assign Tuple" => ((k_here;k_dflt (refine' asgPair ?F_r28 ?N_r28 ?hh_r28 ?ht_r28 ?_;(case F_r28 => k_asm);(case N_r28 => k_asm);(case hh_r28 => assumption);(case ht_r28 => kun_tup);k_whole);intro qh' qF' qN' qkK;(try dsimp only)))
  k_with "go3" => (repeat' ((fail_if_success (with_reducible show Exists _));(fail_if_success (with_reducible show _ ∧ Keeps _ _));(fail_if_success (with_reducible show wpAny _ _ (exec (Stmt.Assign _ (PySem.Expr.ListComp _ _ _ _) _) _) _ _ _));(fail_if_success (with_reducible show wpAny _ _ (exec (Stmt.For _ _ _ _ _) _) _ _ _));first | (k_unfold;(try dsimp only)) | walk1 | (dsimp only;walk1) | fail "no step"))
  k_with "call type:enumerate" => ((k_here;(with_reducible show wpAny _ _ (call (Value.type "enumerate") [Value.ref _]) _ _ _);k_dflt (refine' enumT ?F_r30 ?N_r30 ?m_r30 ?_;(case F_r30 => k_asm);(case N_r30 => k_asm);(case m_r30 => k_mem));intro qe qh' qF' qN' qkE;(try dsimp only)))
  k_with "go4" => (repeat' ((fail_if_success (with_reducible show Exists _));(fail_if_success (with_reducible show _ ∧ Keeps _ _));(fail_if_success (with_reducible show wpAny _ _ (eval (PySem.Expr.ListComp _ _ _ _) _) _ _ _));(fail_if_success (with_reducible show wpAny _ _ (exec (Stmt.Assign _ (PySem.Expr.ListComp _ _ _ _) _) _) _ _ _));first | (k_unfold;(try dsimp only)) | walk1 | (dsimp only;walk1) | fail "no step"))
  k_with "call ref" => ((k_here;k_dflt (refine' order_ok ?R_r32 ?g_r32 ?z_r32 ?sm_r32 ?hc_r32 _ _ _ _ _ _ _ _ _ _ ?h1_r32 ?h2_r32 ?h3_r32 ?h4_r32 ?h5_r32 ?h6_r32 ?B_r32 ?F_r32 ?X_r32 ?T_r32 ?_;(case R_r32 => walk_at "reads");(case g_r32 => assumption);(case z_r32 => assumption);(case sm_r32 => assumption);(case hc_r32 => assumption);(case h1_r32 => assumption);(case h2_r32 => first | exact Around.frames_deeper (Below.stack (by assumption)) | assumption);(case h3_r32 => exact rfl);(case h4_r32 => exact rfl);(case h5_r32 => walk_at "room");(case h6_r32 => walk_at "units");(case B_r32 => assumption);(case F_r32 => assumption);(case X_r32 => assumption);(case T_r32 => assumption));intro qv9 qh' qtk' qdr' qkK;(try dsimp only at qkK);(rename News _ _ _ _ => qN9);(have qN' := Keep.news qkK qN9);(rename Fr _ _ _ _ => qF9);(have qF9k := fun (_ : True) => Keep.fr qkK qF9);intro qhF' qhP';(have qF' := qF9k True.intro);clear qF9k;(obtain ⟨qD9, qT9, qP9, qk9, qe9, qoD9, qoT9, qoP9, qnD9, qnT9, qnP9⟩ := qhP';subst qe9);(try dsimp only at qnD9 qnT9 qnP9);(have qNp := newsAdd qF9 qN' qoP9 qnP9);(have qNt := newsAdd qF9 qNp qoT9 qnT9);(have qNd := newsAdd qF9 qNt qoD9 qnD9);(have qneP := newsNe qN9 qnP9);(have qneT := newsNe qN9 qnT9);(have qneD := newsNe qN9 qnD9);(have qnePT := ne3 qoD9 qoT9 qoP9);clear qN' qNp qNt;(simp only [List.forall_mem_cons, List.not_mem_nil, false_implies, implies_true, and_true] at qneP qneT qneD);(try dsimp only)))
  k_with "call ref" => ((k_here;k_dflt (refine' want_raises ?R_r33 ?g_r33 ?z_r33 ?sm_r33 ?form_r33 ?P_r33 _ _ _ _ _ _ _ _ _ _ ?h1_r33 ?h2_r33 ?h3_r33 ?h4_r33 ?h5_r33 ?h6_r33 ?B_r33 ?F_r33 ?X_r33 ?T_r33 ?KD_r33 ?_;(case R_r33 => walk_at "reads");(case g_r33 => assumption);(case z_r33 => assumption);(case sm_r33 => assumption);(case form_r33 => assumption);(case P_r33 => exact ⟨_, News.get (by k_asm) (by k_mem), rfl, _, rfl⟩);(case h1_r33 => assumption);(case h2_r33 => first | exact Around.frames_deeper (Below.stack (by assumption)) | assumption);(case h3_r33 => exact rfl);(case h4_r33 => exact rfl);(case h5_r33 => walk_at "room");(case h6_r33 => walk_at "units");(case B_r33 => assumption);(case F_r33 => assumption);(case X_r33 => assumption);(case T_r33 => assumption);(case KD_r33 => exact ktsKeep (by assumption) (Fr.keep (by k_asm))));intro qe9 qh' qtk' qdr' qth9;(try dsimp only at qth9);(try dsimp only)))
  k_with "k_ne" => ((refine neN ?_;(try dsimp only);first | assumption | exact Ne.symm (by assumption) | exact Nat.ne_of_lt (by assumption) | exact Nat.ne_of_gt (by assumption) | exact (And.left (by assumption)) | exact (Ne.symm (And.left (by assumption))) | exact (Nat.ne_of_lt (And.left (by assumption))) | exact (Nat.ne_of_gt (And.left (by assumption))) | exact (And.left (And.right (by assumption))) | exact (Ne.symm (And.left (And.right (by assumption)))) | exact (Nat.ne_of_lt (And.left (And.right (by assumption)))) | exact (Nat.ne_of_gt (And.left (And.right (by assumption)))) | exact (And.right (by assumption)) | exact (Ne.symm (And.right (by assumption))) | exact (Nat.ne_of_lt (And.right (by assumption))) | exact (Nat.ne_of_gt (And.right (by assumption))) | exact (And.left (And.right (And.right (by assumption)))) | exact (Ne.symm (And.left (And.right (And.right (by assumption))))) | exact (Nat.ne_of_lt (And.left (And.right (And.right (by assumption))))) | exact (Nat.ne_of_gt (And.left (And.right (And.right (by assumption))))) | exact (And.right (And.right (by assumption))) | exact (Ne.symm (And.right (And.right (by assumption)))) | exact (Nat.ne_of_lt (And.right (And.right (by assumption)))) | exact (Nat.ne_of_gt (And.right (And.right (by assumption)))) | exact (And.left (And.right (And.right (And.right (by assumption))))) | exact (Ne.symm (And.left (And.right (And.right (And.right (by assumption)))))) | exact (Nat.ne_of_lt (And.left (And.right (And.right (And.right (by assumption)))))) | exact (Nat.ne_of_gt (And.left (And.right (And.right (And.right (by assumption)))))) | exact (And.right (And.right (And.right (by assumption)))) | exact (Ne.symm (And.right (And.right (And.right (by assumption))))) | exact (Nat.ne_of_lt (And.right (And.right (And.right (by assumption))))) | exact (Nat.ne_of_gt (And.right (And.right (And.right (by assumption))))) | exact (And.left (And.right (And.right (And.right (And.right (by assumption)))))) | exact (Ne.symm (And.left (And.right (And.right (And.right (And.right (by assumption))))))) | exact (Nat.ne_of_lt (And.left (And.right (And.right (And.right (And.right (by assumption))))))) | exact (Nat.ne_of_gt (And.left (And.right (And.right (And.right (And.right (by assumption))))))) | exact (And.right (And.right (And.right (And.right (by assumption))))) | exact (Ne.symm (And.right (And.right (And.right (And.right (by assumption)))))) | exact (Nat.ne_of_lt (And.right (And.right (And.right (And.right (by assumption)))))) | exact (Nat.ne_of_gt (And.right (And.right (And.right (And.right (by assumption)))))) | exact (And.left (And.right (And.right (And.right (And.right (And.right (by assumption))))))) | exact (Ne.symm (And.left (And.right (And.right (And.right (And.right (And.right (by assumption)))))))) | exact (Nat.ne_of_lt (And.left (And.right (And.right (And.right (And.right (And.right (by assumption)))))))) | exact (Nat.ne_of_gt (And.left (And.right (And.right (And.right (And.right (And.right (by assumption)))))))) | exact (And.right (And.right (And.right (And.right (And.right (by assumption)))))) | exact (Ne.symm (And.right (And.right (And.right (And.right (And.right (by assumption))))))) | exact (Nat.ne_of_lt (And.right (And.right (And.right (And.right (And.right (by assumption))))))) | exact (Nat.ne_of_gt (And.right (And.right (And.right (And.right (And.right (by assumption))))))) | exact (And.left (And.right (And.right (And.right (And.right (And.right (And.right (by assumption)))))))) | exact (Ne.symm (And.left (And.right (And.right (And.right (And.right (And.right (And.right (by assumption))))))))) | exact (Nat.ne_of_lt (And.left (And.right (And.right (And.right (And.right (And.right (And.right (by assumption))))))))) | exact (Nat.ne_of_gt (And.left (And.right (And.right (And.right (And.right (And.right (And.right (by assumption))))))))) | exact (And.right (And.right (And.right (And.right (And.right (And.right (by assumption))))))) | exact (Ne.symm (And.right (And.right (And.right (And.right (And.right (And.right (by assumption)))))))) | exact (Nat.ne_of_lt (And.right (And.right (And.right (And.right (And.right (And.right (by assumption)))))))) | exact (Nat.ne_of_gt (And.right (And.right (And.right (And.right (And.right (And.right (by assumption)))))))) | omega))
  k_with "go6" => (repeat' ((fail_if_success (with_reducible show Exists _));(fail_if_success (with_reducible show _ = Flow.next ∧ _));(fail_if_success (with_reducible show wpAny _ _ (eval (PySem.Expr.ListComp _ _ _ _) _) _ _ _));(fail_if_success (with_reducible show wpAny _ _ (call (Value.ref 224) _) _ _ _));(fail_if_success (with_reducible show wpAny _ _ (call (Value.ref 219) _) _ _ _));(fail_if_success (with_reducible show wpAny _ _ (exec (Stmt.For _ _ _ _ _) _) _ _ _));first | (k_unfold;(try dsimp only)) | walk1 | (dsimp only;walk1) | fail "no step"))
  k_with "go6b" => (repeat' ((fail_if_success (with_reducible show Exists _));(fail_if_success (with_reducible show wpAny _ _ (pyIter _) _ _ _));(fail_if_success (with_reducible show _ = Flow.next ∧ _));(fail_if_success (with_reducible show wpAny _ _ (eval (PySem.Expr.ListComp _ _ _ _) _) _ _ _));(fail_if_success (with_reducible show wpAny _ _ (call (Value.ref 224) _) _ _ _));(fail_if_success (with_reducible show wpAny _ _ (call (Value.ref 219) _) _ _ _));(fail_if_success (with_reducible show wpAny _ _ (exec (Stmt.For _ _ _ _ _) _) _ _ _));first | (k_unfold;(try dsimp only)) | walk1 | (dsimp only;walk1) | fail "no step"))
  k_with "go10" => (repeat' ((fail_if_success (with_reducible show Exists _));(fail_if_success (with_reducible show wpAny _ _ (subscriptTail _ _ (Value.ref _) (Value.int _ _)) _ _ _));(fail_if_success (with_reducible show _ = Flow.next ∧ _));(fail_if_success (with_reducible show wpAny _ _ (eval (PySem.Expr.ListComp _ _ _ _) _) _ _ _));(fail_if_success (with_reducible show wpAny _ _ (call (Value.ref 224) _) _ _ _));(fail_if_success (with_reducible show wpAny _ _ (call (Value.ref 219) _) _ _ _));(fail_if_success (with_reducible show wpAny _ _ (exec (Stmt.For _ _ _ _ _) _) _ _ _));first | (k_unfold;(try dsimp only)) | walk1 | (dsimp only;walk1) | fail "no step"))
  k_with "go11" => (repeat' ((fail_if_success (with_reducible show Exists _));(fail_if_success (with_reducible show wpAny _ _ (call (Value.ref 133) _) _ _ _));(fail_if_success (with_reducible show wpAny _ _ (call (Value.ref 231) _) _ _ _));(fail_if_success (with_reducible show wpAny _ _ (subscriptTail _ _ (Value.ref _) (Value.int _ _)) _ _ _));(fail_if_success (with_reducible show _ = Flow.next ∧ _));(fail_if_success (with_reducible show wpAny _ _ (eval (PySem.Expr.ListComp _ _ _ _) _) _ _ _));(fail_if_success (with_reducible show wpAny _ _ (call (Value.ref 224) _) _ _ _));(fail_if_success (with_reducible show wpAny _ _ (call (Value.ref 219) _) _ _ _));(fail_if_success (with_reducible show wpAny _ _ (exec (Stmt.For _ _ _ _ _) _) _ _ _));first | (k_unfold;(try dsimp only)) | walk1 | (dsimp only;walk1) | fail "no step"))
  k_with "k_ne" => ((refine neN ?_;(try dsimp only);first | assumption | exact Ne.symm (by assumption)))
  k_with "k_all" => (assumption)
  k_with "call ref" => ((k_here;(with_reducible show wpAny _ _ (call (Value.ref 212) _) _ _ _);k_dflt (refine' pick_ok ?hh_r41 ?hA_r41 ?hf_r41 ?hke_r41 ?hd_r41 ?hu_r41 ?B_r41 ?F_r41 ?X_r41 ?T_r41 ?N_r41 ?U_r41 ?hR_r41 ?hne_r41 ?hI_r41 ?hlen_r41 ?hk0_r41 ?hk_r41 ?hD_r41 ?lo_r41 ?hm1_r41 ?hm2_r41 ?_;(case hh_r41 => assumption);(case hA_r41 => assumption);(case hf_r41 => exact rfl);(case hke_r41 => exact rfl);(case hd_r41 => walk_at "room");(case hu_r41 => walk_at "units");(case B_r41 => assumption);(case F_r41 => k_asm);(case X_r41 => assumption);(case T_r41 => assumption);(case N_r41 => k_asm);(case U_r41 => intro qo9;k_upd);(case hD_r41 => assumption);(case hR_r41 => k_mem);(case hne_r41 => assumption);(case hI_r41 => assumption);(case hlen_r41 => assumption);(case hk0_r41 => assumption);(case hk_r41 => assumption);(case lo_r41 => assumption);(case hm1_r41 => assumption);(case hm2_r41 => assumption));intro qi' qt' qo' qt3' qh' qtk' qi0' qi1' qd' qF' qN';(try dsimp only)))
  trivial
noncomputable def RowOK (ps : List (PyData × Str)) (d : PyData) : Prop := good 51 d ∧ sz d ≤ 850 ∧ ((kids (kid d 2)).all pairOk = true → (kids (kid d 2)).length ≤ 2) ∧ ((papersD ps).any fun y => PyData.eqv y d) = formB d ∧ isTup d = true
theorem reg_tail1 : True := by
  k_with "reads" => ((refine' rdUse ?rd_r100 ?F_r100 ?N_r100 ?hs_r100;(case rd_r100 => assumption);(case F_r100 => k_asm);(case N_r100 => k_asm);(case hs_r100 => intro qp qhp;repeat (first | exact (by assumption : ∀ qp ∈ _, qp ∈ _) qp qhp | refine List.Mem.tail _ ?_))))
  k_with "compareOp In ref ref" => ((k_here;k_dflt (refine' inPap ?F_r101 ?N_r101 ?hs_r101 ?P_r101 ?rp_r101 ?rx_r101 ?hc_r101 ?hd_r101 ?hu_r101 ?hb_r101 ?_;(case F_r101 => k_asm);(case N_r101 => k_asm);(case P_r101 => k_mem);(case rp_r101 => assumption);(case rx_r101 => assumption);(case hs_r101 => intro qp qhp;repeat (first | (exact (by assumption : ∀ qp ∈ _, qp ∈ _) qp qhp) | refine List.Mem.tail _ ?_));(case hc_r101 => assumption);(case hd_r101 => assumption);(case hu_r101 => walk_at "units");(case hb_r101 => assumption);k_whole);(try dsimp only)))
  k_with "compareOp NotIn ref ref" => ((k_here;k_dflt (refine' notInPap ?F_r102 ?N_r102 ?hs_r102 ?P_r102 ?rp_r102 ?rx_r102 ?hc_r102 ?hd_r102 ?hu_r102 ?hb_r102 ?_;(case F_r102 => k_asm);(case N_r102 => k_asm);(case P_r102 => k_mem);(case rp_r102 => assumption);(case rx_r102 => assumption);(case hs_r102 => intro qp qhp;repeat (first | (exact (by assumption : ∀ qp ∈ _, qp ∈ _) qp qhp) | refine List.Mem.tail _ ?_));(case hc_r102 => assumption);(case hd_r102 => assumption);(case hu_r102 => walk_at "units");(case hb_r102 => assumption);k_whole);(try dsimp only)))
  k_with "compareOp NotEq ref ref" => ((k_here;(with_reducible show wpAny _ _ (compareOp CmpOp.NotEq (Value.ref _) (Value.ref _)) _ _ _);k_dflt (refine' neSame ?F_r103 ?N_r103 ?hs_r103 ?D_r103 ?D2_r103 ?T_r103 ?T2_r103 ?P_r103 ?P2_r103 ?rx_r103 ?hg_r103 ?hu_r103 ?_;(case F_r103 => k_asm);(case N_r103 => k_asm);(case D_r103 => k_mem);(case D2_r103 => k_mem);(case T_r103 => k_mem);(case T2_r103 => k_mem);(case P_r103 => k_mem);(case P2_r103 => k_mem);(case rx_r103 => assumption);(case hs_r103 => intro qp qhp;repeat (first | exact (by assumption : ∀ qp ∈ _, qp ∈ _) qp qhp | refine List.Mem.tail _ ?_));(case hg_r103 => assumption);(case hu_r103 => walk_at "units");k_whole);(try dsimp only)))
  k_with "binaryOp Add ref ref" => ((k_here;k_dflt (refine' addTupL ?F_r104 ?N_r104 ?hs_r104 ?r1_r104 ?r2_r104 ?T_r104 ?z_r104 ?_;(case F_r104 => k_asm);(case N_r104 => k_asm);(case r1_r104 => assumption);(case r2_r104 => assumption);(case T_r104 => k_mem);(case hs_r104 => intro qp qhp;repeat (first | exact (by assumption : ∀ qp ∈ _, qp ∈ _) qp qhp | refine List.Mem.tail _ ?_));(case z_r104 => assumption));intro qy' qh' qF' qN' qry';(try dsimp only)))
  trivial
theorem form_kid0 {d : PyData} (h : formB d = true) : ∃ x, kid d 0 = .str x := by
  simp only [formB] at h
  cases hk : kid d 0 <;> simp_all
theorem bare_of {x : Str} (h : ([Str.ofString "same", Str.ofString "told", Str.ofString "rule"].any fun y => y == x) = true) : bareKind x := by
  simp only [List.any_cons, List.any_nil, Bool.or_false, Bool.or_eq_true, beq_iff_eq] at h
  rcases h with h | h | h
  · exact .inl h.symm
  · exact .inr (.inl h.symm)
  · exact .inr (.inr h.symm)
theorem offMap {l1 l2 : List (Addr × Obj)} {I : Addr} (h : ∀ p ∈ l1, @Ne Nat p.1 I) (e : l2.map (·.1) = l1.map (·.1)) : ∀ p ∈ l2, @Ne Nat p.1 I := fun p hp => by
  have : p.1 ∈ l2.map (·.1) := List.mem_map_of_mem hp
  rw [e] at this
  obtain ⟨q, hq, e2⟩ := List.mem_map.mp this
  rw [← e2]; exact h q hq
theorem reg_tail2 : True := by
  k_with "compareOp NotEq ref ref" => ((k_here;(with_reducible show wpAny _ _ (compareOp CmpOp.NotEq (Value.ref _) (Value.ref _)) _ _ _);k_dflt (refine' neSelf ?F_r200 ?N_r200 ?hs_r200 ?rx_r200 ?hd_r200 ?hu_r200 ?_;(case F_r200 => k_asm);(case N_r200 => k_asm);(case rx_r200 => assumption);(case hs_r200 => intro qp qhp;repeat (first | exact (by assumption : ∀ qp ∈ _, qp ∈ _) qp qhp | refine List.Mem.tail _ ?_));(case hd_r200 => assumption);(case hu_r200 => walk_at "units");k_whole);(try dsimp only)))
  trivial
namespace law_tail_n
noncomputable def Wk (w : World) (mean : ExcName → Option Value) (mg : Str → Option Value) (mb : Str → Option Value) (s : Shared) (A : Around) (A₀ : Around) (base : Heap) (h₀ : Heap) (L : Addr) (D : Addr) (R : Addr) (S : Addr) (f : Addr) (m : Str → Option Value) (Q : Flow → Shared → Prop) (E : Value → Shared → Prop) (o : Obj) (ocl : Obj) (ys : List Value) (ns : List Int) (t3 : Tok) (cd : Value) (vs : List Value) (ps : List (PyData × Str)) (ks : Nat) (Ts : List (Addr × Obj)) : Prop := ∀ (name : Str) (qual : Str) (params : Arguments) (body : List Stmt) (s1 : Stmt) (s2 : Stmt) (s3 : Stmt) (scope : Scope) (dV : Value) (kV : Value) (doc : Value) (pm : Value) (cdv : Value) (ct : Value) (oc : Value) (an : Option Addr) (od : Option Addr) (osl : Array (Option Value)) (hlk : (Mine.hd.heap_39 w.params).lookup 236 = some ⟨oc, od, .func (fnOf name qual params (s1 :: s2 :: s3 :: body) scope dV kV doc pm an cdv ct), osl⟩) (hh : A.handled = none) (hA : A.frames = some [envOfC qual scope L f cd]) (hd : A.depth + 20 < recursionLimit) (hu : A.units + 2000 < cLine) (B : Below A₀ base [] h₀) (F : Fr h₀ L s.heap m) (X : (Mine.hd.heap_39 w.params).In h₀) (T : TopH mean mg mb h₀) (N : News h₀ L s.heap ((S, listOf vs.toArray ks) :: (D, o) :: (R, LCg.lst ys) :: (L + 1, ocl) :: Ts)) (hS : m (Str.ofString "some") = some (.ref S)) (hcl : ocl.data = .cell (some (.ref D))) (hneR : @Ne Nat R D) (hneC : @Ne Nat (L + 1) D) (hneT : ∀ p ∈ Ts, @Ne Nat p.1 D) (hneS : @Ne Nat S D) (hI : IntsAre ys ns) (hlen : ns.length ≤ 20) (hD : o.IsDictOf (PySem.strKind PG w) [(Str.ofString "row", .ref R), (Str.ofString "at", .int 5 t3)]) (lo : (D == sysModules) = false) (RA : ReadsAll s.heap vs (ps.map pairD) []) (hps : ∀ p ∈ ps, p ∈ kindsS.map (fun x => (PyData.str x, Str.ofString "to")) ++ thingsD) (hp5 : ps.length = 5) (hrow : ∀ d ∈ foundD (ps.map (·.1)) 3, RowOK ps d) (hext : ∀ d ∈ foundD (ps.map (·.1)) 3, (kids d).length = 3 → ∀ p ∈ ps, good 51 (.tuple (kids d ++ [p.1])) ∧ sz (.tuple (kids d ++ [p.1])) ≤ 900 ∧ ((kids (kid (.tuple (kids d ++ [p.1])) 2)).all pairOk = true → (kids (kid (.tuple (kids d ++ [p.1])) 2)).length ≤ 2) ∧ formB (.tuple (kids d ++ [p.1])) = false) (hl156 : (foundD (ps.map (·.1)) 3).length = 156) (hpap : SeqAt.shaped (.list (papersD ps)) = true) (ret : ∀ h' tk dr m', Fr h₀ L h' m' → Q (.ret (.bool true)) { s with heap := h', toks := tk, drawn := dr }), wpAny (model PG w) A (execs body (envOfC qual scope L f cd)) Q E s
theorem inhab : Nonempty ((World) × (ExcName → Option Value) × (Str → Option Value) × (Str → Option Value) × (Shared) × (Around) × (Around) × (Heap) × (Heap) × (Addr) × (Addr) × (Addr) × (Addr) × (Addr) × (Str → Option Value) × (Flow → Shared → Prop) × (Value → Shared → Prop) × (Obj) × (Obj) × (List Value) × (List Int) × (Tok) × (Value) × (List Value) × (List (PyData × Str)) × (Nat) × (List (Addr × Obj))) := ⟨((aWorld 1), (fun _ => none), (fun _ => none), (fun _ => none), ({}), ({}), ({}), ({}), ({}), (0), (0), (0), (0), (0), (fun _ => none), (fun _ _ => True), (fun _ _ => True), (⟨.none, none, .freed, #[]⟩), (⟨.none, none, .freed, #[]⟩), ([]), ([]), (0), (.none), ([]), ([]), (0), ([]))⟩
noncomputable def cc : (World) × (ExcName → Option Value) × (Str → Option Value) × (Str → Option Value) × (Shared) × (Around) × (Around) × (Heap) × (Heap) × (Addr) × (Addr) × (Addr) × (Addr) × (Addr) × (Str → Option Value) × (Flow → Shared → Prop) × (Value → Shared → Prop) × (Obj) × (Obj) × (List Value) × (List Int) × (Tok) × (Value) × (List Value) × (List (PyData × Str)) × (Nat) × (List (Addr × Obj)) := pickA inhab fun c => Wk c.1 c.2.1 c.2.2.1 c.2.2.2.1 c.2.2.2.2.1 c.2.2.2.2.2.1 c.2.2.2.2.2.2.1 c.2.2.2.2.2.2.2.1 c.2.2.2.2.2.2.2.2.1 c.2.2.2.2.2.2.2.2.2.1 c.2.2.2.2.2.2.2.2.2.2.1 c.2.2.2.2.2.2.2.2.2.2.2.1 c.2.2.2.2.2.2.2.2.2.2.2.2.1 c.2.2.2.2.2.2.2.2.2.2.2.2.2.1 c.2.2.2.2.2.2.2.2.2.2.2.2.2.2.1 c.2.2.2.2.2.2.2.2.2.2.2.2.2.2.2.1 c.2.2.2.2.2.2.2.2.2.2.2.2.2.2.2.2.1 c.2.2.2.2.2.2.2.2.2.2.2.2.2.2.2.2.2.1 c.2.2.2.2.2.2.2.2.2.2.2.2.2.2.2.2.2.2.1 c.2.2.2.2.2.2.2.2.2.2.2.2.2.2.2.2.2.2.2.1 c.2.2.2.2.2.2.2.2.2.2.2.2.2.2.2.2.2.2.2.2.1 c.2.2.2.2.2.2.2.2.2.2.2.2.2.2.2.2.2.2.2.2.2.1 c.2.2.2.2.2.2.2.2.2.2.2.2.2.2.2.2.2.2.2.2.2.2.1 c.2.2.2.2.2.2.2.2.2.2.2.2.2.2.2.2.2.2.2.2.2.2.2.1 c.2.2.2.2.2.2.2.2.2.2.2.2.2.2.2.2.2.2.2.2.2.2.2.2.1 c.2.2.2.2.2.2.2.2.2.2.2.2.2.2.2.2.2.2.2.2.2.2.2.2.2.1 c.2.2.2.2.2.2.2.2.2.2.2.2.2.2.2.2.2.2.2.2.2.2.2.2.2.2
@[irreducible] noncomputable def w : World := cc.1
@[irreducible] noncomputable def mean : ExcName → Option Value := cc.2.1
@[irreducible] noncomputable def mg : Str → Option Value := cc.2.2.1
@[irreducible] noncomputable def mb : Str → Option Value := cc.2.2.2.1
@[irreducible] noncomputable def s : Shared := cc.2.2.2.2.1
@[irreducible] noncomputable def A : Around := cc.2.2.2.2.2.1
@[irreducible] noncomputable def A₀ : Around := cc.2.2.2.2.2.2.1
@[irreducible] noncomputable def base : Heap := cc.2.2.2.2.2.2.2.1
@[irreducible] noncomputable def h₀ : Heap := cc.2.2.2.2.2.2.2.2.1
@[irreducible] noncomputable def L : Addr := cc.2.2.2.2.2.2.2.2.2.1
@[irreducible] noncomputable def D : Addr := cc.2.2.2.2.2.2.2.2.2.2.1
@[irreducible] noncomputable def R : Addr := cc.2.2.2.2.2.2.2.2.2.2.2.1
@[irreducible] noncomputable def S : Addr := cc.2.2.2.2.2.2.2.2.2.2.2.2.1
@[irreducible] noncomputable def f : Addr := cc.2.2.2.2.2.2.2.2.2.2.2.2.2.1
@[irreducible] noncomputable def m : Str → Option Value := cc.2.2.2.2.2.2.2.2.2.2.2.2.2.2.1
@[irreducible] noncomputable def Q : Flow → Shared → Prop := cc.2.2.2.2.2.2.2.2.2.2.2.2.2.2.2.1
@[irreducible] noncomputable def E : Value → Shared → Prop := cc.2.2.2.2.2.2.2.2.2.2.2.2.2.2.2.2.1
@[irreducible] noncomputable def o : Obj := cc.2.2.2.2.2.2.2.2.2.2.2.2.2.2.2.2.2.1
@[irreducible] noncomputable def ocl : Obj := cc.2.2.2.2.2.2.2.2.2.2.2.2.2.2.2.2.2.2.1
@[irreducible] noncomputable def ys : List Value := cc.2.2.2.2.2.2.2.2.2.2.2.2.2.2.2.2.2.2.2.1
@[irreducible] noncomputable def ns : List Int := cc.2.2.2.2.2.2.2.2.2.2.2.2.2.2.2.2.2.2.2.2.1
@[irreducible] noncomputable def t3 : Tok := cc.2.2.2.2.2.2.2.2.2.2.2.2.2.2.2.2.2.2.2.2.2.1
@[irreducible] noncomputable def cd : Value := cc.2.2.2.2.2.2.2.2.2.2.2.2.2.2.2.2.2.2.2.2.2.2.1
@[irreducible] noncomputable def vs : List Value := cc.2.2.2.2.2.2.2.2.2.2.2.2.2.2.2.2.2.2.2.2.2.2.2.1
@[irreducible] noncomputable def ps : List (PyData × Str) := cc.2.2.2.2.2.2.2.2.2.2.2.2.2.2.2.2.2.2.2.2.2.2.2.2.1
@[irreducible] noncomputable def ks : Nat := cc.2.2.2.2.2.2.2.2.2.2.2.2.2.2.2.2.2.2.2.2.2.2.2.2.2.1
@[irreducible] noncomputable def Ts : List (Addr × Obj) := cc.2.2.2.2.2.2.2.2.2.2.2.2.2.2.2.2.2.2.2.2.2.2.2.2.2.2
theorem here : Wk w mean mg mb s A A₀ base h₀ L D R S f m Q E o ocl ys ns t3 cd vs ps ks Ts := by
  unfold Wk
  intro name qual params body s1 s2 s3 scope dV kV doc pm cdv ct oc an od osl hlk hh hA hd hu B F X T N hS hcl hneR hneC hneT hneS hI hlen hD lo RA hps hp5 hrow hext hl156 hpap ret
  (have hFill : ∀ P : Params, (Mine.hd.heap_39 P = Mine.hd.heap_39 P) ∧ PySem.Challenge.rw_rg0113_01 = PySem.Challenge.rw_rg0113_01 := (by k_fill; exact fillK); clear hFill)
  have hlk' : (Mine.hd.heap_39 w.params).lookup 236 = some _ := rfl
  cases hlk.symm.trans hlk'
  clear hlk hlk'
  have F := frPin F hS
  have B0 := B
  walk_at "go6"; all_goals (try k_data)
  all_goals (try dsimp only)
  have hz5 : vs.length ≤ 1000 := by rw [readsAll_len RA, List.length_map]; omega
  k_dflt (refine' compFst (S := S) (vs := vs) (ps := ps) hh ?n1 ?n2 ?n3 ?n4 ?n5 ?n6 ?n7 ?n8 ?n9 (N.get (.head _)) RA hz5 ?n10 ?n11; (case n1 => exact rfl); (case n2 => decide); (case n3 => exact rfl); (case n4 => decide); (case n5 => decide); (case n6 => decide); (case n7 => decide); (case n8 => intro _; with_unfolding_all rfl); (case n9 => decide))
  case n10 =>
    walk_at "go6"; all_goals (try k_data)
    all_goals (try dsimp only)
    all_goals (first | exact ⟨rfl, rfl⟩ | skip)
  intro D1 h1 tk1 ws1 k1 kk1 nD1 hD1 r1
  have F1 := Keep.fr kk1 F
  have N1 := newsAdd F (Keep.news kk1 N) hD1 nD1
  clear F N
  (try dsimp only)
  walk_at "go6"; all_goals (try k_data)
  all_goals (try dsimp only)
  refine rows_ok (w := w) (s := ⟨_, _, _, _, _⟩) (hD1) r1 (by rw [List.length_map]; exact hp5) A A₀ base h₀ [] _ L _ _ _ hh hA rfl rfl (by walk_at "room") (by walk_at "units") B0 F1 X T ?_
  rintro v2 h2 tk2 dr2 kk2 F2 ⟨Rw, wr, kr, rfl, hR2, nR2, rR2⟩
  have N2 := newsAdd F1 (Keep.news kk2 N1) hR2 nR2
  have RA2 := readsAll_tk (TK.trans (Keep.tk kk1) (Keep.tk kk2)) RA
  have hN1keep := N1
  clear F1 N1
  (try dsimp only)
  walk_at "go6"; all_goals (try k_data)
  all_goals (try dsimp only)
  refine papers_ok (w := w) (s := ⟨_, _, _, _, _⟩) (N2.get (.tail _ (.tail _ (.head _)))) RA2 hp5 A A₀ base h₀ [] _ L _ _ _ hh hA rfl rfl (by walk_at "room") (by walk_at "units") B0 F2 X T ?_
  rintro v3 h3 tk3 dr3 kk3 F3 ⟨Pw, wp, kp, rfl, hP3, nP3, rP3⟩
  have N3 := newsAdd F2 (Keep.news kk3 N2) hP3 nP3
  have hN2keep := N2
  clear F2 N2
  have hneP : @Ne Nat Pw D := Ne.symm (newsNe hN2keep nP3 (D, o) (.tail _ (.tail _ (.tail _ (.head _)))))
  have hneW : @Ne Nat Rw D := Ne.symm (newsNe hN1keep nR2 (D, o) (.tail _ (.tail _ (.head _))))
  have rdR := RdTs.of_tups F3.keep (readsAll_tk (Keep.tk kk3) rR2)
  have rdP := RdTs.of_tups F3.keep rP3
  have rdS := fun (i : Nat) (v : Value) (hv : vs[i]? = some v) => rdFst F3.keep (readsAll_tk (Keep.tk kk3) RA2) hv
  have NT := newsJoin N3 (news_tups F3)
  have cT := alltup_tups h₀ h3
  generalize tups h₀ h3 = Tn at NT rdR rdP rdS cT
  simp only [List.cons_append] at NT
  have hsT : ∀ p ∈ Tn, p ∈ Ts ++ Tn := fun p hp => List.mem_append_right _ hp
  have hneT2 : ∀ p ∈ Ts ++ Tn, @Ne Nat p.1 D := fun p hp => (List.mem_append.mp hp).elim (hneT p) (fun hp => tsNe NT (.tail _ (.tail _ (.tail _ (.tail _ (.head _))))) (fun q hq => .tail _ (.tail _ (.tail _ (.tail _ (.tail _ (.tail _ (.tail _ (hsT q hq)))))))) cT (by obtain ⟨_, _, hx, _⟩ := hD; rw [hx.1]; decide) p hp)
  generalize Ts ++ Tn = Ts2 at NT hsT hneT2
  clear N3
  (try dsimp only)
  walk_at "go6"; all_goals (try k_data)
  all_goals (try dsimp only)
  rename Fr _ _ _ _ => F4
  rename News _ _ _ _ => N4
  have NF : News h₀ L _ ((Pw, listOf wp.toArray kp) :: (Rw, listOf wr.toArray kr) :: (S, listOf vs.toArray ks) :: (D, o) :: (R, LCg.lst ys) :: (L + 1, ocl) :: Ts2) := fun p hp => N4 p (by
    rcases List.mem_cons.mp hp with rfl | hp
    · exact .tail _ (.head _)
    · rcases List.mem_cons.mp hp with rfl | hp
      · exact .tail _ (.tail _ (.head _))
      · exact .tail _ (.tail _ (.tail _ (.tail _ hp))))
  have hzR : wr.length = 156 := by rw [readsAll_len rR2]; exact hl156
  have hzR2 : wr.length ≤ 2 ^ 20 := by omega
  have hm1 : (1 : Int) ≤ (wr.length : Int) := by omega
  have hm2 : (wr.length : Int) ≤ 200 := by omega
  clear N4
  k_dflt (refine' forCore (g := h₀) (L := L) wr.length (fun i v => wr[i]? = some v) (fun h => h.get? Rw = some (listOf wr.toArray kr)) (fun i m news => m (Str.ofString "rows") = some (.ref Rw) ∧ m (Str.ofString "papers") = some (.ref Pw) ∧ m (Str.ofString "some") = some (.ref S) ∧ news = (Pw, listOf wp.toArray kp) :: (Rw, listOf wr.toArray kr) :: (S, listOf vs.toArray ks) :: (D, o) :: (R, LCg.lst ys) :: (L + 1, ocl) :: Ts2) ?l1 ?l2; (case l1 => intro _; with_unfolding_all rfl))
  intro R1 close1
  walk_at "go6"; all_goals (try k_data)
  all_goals (try dsimp only)
  refine srcList (g := h₀) (L := L) (s := ⟨_, _, _, _, _⟩) hh (NF _ (.tail _ (.head _))).1 F4 NF fun I fp St h9 k9 ls hit => ?_
  refine close1 _ I fp St _ _ ls ⟨rfl, rfl, rfl, rfl⟩ (fun i m₁ news₁ h hJ F9 N9 => by obtain ⟨_, _, _, rfl⟩ := hJ; exact (N9 _ (.tail _ (.head _))).1) ?_ ?_
  · rintro i v m₁ news₁ oI h tk dr R9 close9 hi hv ⟨m1, m2, m3, rfl⟩ off F5 N5 hIc _
    obtain ⟨d, hd5, rd5⟩ := rdR.get F5.keep (fun p hp => (N5 _ (.tail _ (.tail _ (.tail _ (.tail _ (.tail _ (.tail _ (.tail _ (hsT p hp))))))))).1) hv
    obtain ⟨hg, hz, hsmall, hany, hdt⟩ := hrow d (List.mem_of_getElem? hd5)
    have rv := rdUse rd5 F5 N5 (fun p hp => .tail _ (.tail _ (.tail _ (.tail _ (.tail _ (.tail _ (.tail _ (hsT p hp))))))))
    rw [kids_tup hdt] at rv
    obtain ⟨a, _, _, _, rfl, _⟩ := reads_tup rv
    clear rv
    refine wpAny_of_eq (show letOwnedTupleGo _ _ _ = pure () from rfl) ?_
    have F6 := frPin (frPin2 F5 m1 m2) (x := Str.ofString "some") m3
    clear F5
    have hz9 : sz d ≤ 900 := by omega
    have hsh : SeqAt.shaped d = true := by
      have h1 := hg.1
      have h2 := hg.2.1
      unfold SeqAt.shaped
      rw [h1, Bool.true_and]
      exact decide_eq_true (by omega)
    rcases Bool.eq_false_or_eq_true (formB d) with hf | hf
    · rw [hf] at hany
      have hq : (formB d != true) = false := by rw [hf]; rfl
      walk_at "go6"; all_goals (try k_data)
      all_goals (try dsimp only)
      rename Fr _ _ _ _ => F9
      rename News _ _ _ _ => N9
      exact close9 _ _ _ _ _ F9 N9 (off) ⟨rfl, rfl, rfl, rfl⟩
    · rw [hf] at hany
      have hq : (formB d != false) = false := by rw [hf]; rfl
      have hc9 : formB d = true → ∃ x, kid d 0 = .str x ∧ bareKind x := fun q => by rw [hf] at q; cases q
      walk_at "go6"; all_goals (try k_data)
      all_goals (try dsimp only)
      rename Fr _ _ _ _ => F9
      rename News _ _ _ _ => N9
      exact close9 _ _ _ _ _ F9 (fun p hp => N9 p (.tail _ (.tail _ (.tail _ (.tail _ (.tail _ (.tail _ hp))))))) (off) ⟨rfl, rfl, rfl, rfl⟩
  · rintro h tk dr m₁ news₁ F5 N5 ⟨m1, m2, m3, rfl⟩
    have F6 := frPin (frPin2 F5 m1 m2) (x := Str.ofString "some") m3
    clear F5
    walk_at "go6"; all_goals (try k_data)
    all_goals (try dsimp only)
    k_dflt (refine' forCore (g := h₀) (L := L) 5 (fun i v => ∃ t, v = .int ((i : Nat) : Int) t) (fun _ => True) (fun i m news => m (Str.ofString "rows") = some (.ref Rw) ∧ m (Str.ofString "papers") = some (.ref Pw) ∧ m (Str.ofString "some") = some (.ref S) ∧ ∃ o' t3', news = (Pw, listOf wp.toArray kp) :: (Rw, listOf wr.toArray kr) :: (S, listOf vs.toArray ks) :: (D, o') :: (R, LCg.lst ys) :: (L + 1, ocl) :: Ts2 ∧ o'.IsDictOf (PySem.strKind PG w) [(Str.ofString "row", .ref R), (Str.ofString "at", .int (5 + ((i : Nat) : Int)) t3')]) ?l3 ?l4; (case l3 => intro _; with_unfolding_all rfl))
    intro R1 close1
    walk_at "go6b"; all_goals (try k_data)
    all_goals (try dsimp only)
    refine srcRange (n := 5) (s := ⟨_, _, _, _, _⟩) hh (by assumption) (by decide) (by decide) (by assumption) (by assumption) fun I fp St h9 k9 ls => ?_
    refine close1 _ I fp St _ _ ls ⟨rfl, rfl, rfl, o, t3, rfl, hD⟩ (fun _ _ _ _ _ _ _ => trivial) ?_ ?_
    · rintro i v m₁ news₁ oI h tk dr R9 close9 hi ⟨t, rfl⟩ ⟨m1, m2, m3, o', t3', rfl, hD'⟩ off F5 N5 hIc _
      refine wpAny_of_eq (show letOwnedTupleGo _ _ _ = pure () from rfl) ?_
      have F6 := frPin (frPin2 F5 m1 m2) (x := Str.ofString "some") m3
      clear F5
      have hID : @Ne Nat I D := Ne.symm (off (D, o') (.tail _ (.tail _ (.tail _ (.head _)))))
      have hk0 : (0 : Int) ≤ 5 + (i : Int) := by omega
      have hk1 : (5 : Int) + (i : Int) ≤ 20 := by omega
      walk_at "go11"; all_goals (try k_data)
      all_goals (try dsimp only)
      rename News _ _ _ _ => N7
      rename Fr _ _ _ _ => F7
      rename Obj.IsDictOf _ _ _ => d7
      rw [show (5 + (i : Int) + 1) = 5 + ((i + 1 : Nat) : Int) by omega] at d7
      have d8 := d7
      clear d7
      refine itemLst (s := ⟨_, _, _, _, _⟩) N7 (.tail _ (.tail _ (.head _))) (by assumption) (by assumption) (by omega) (fun v8 hv8 => ?_) (by with_unfolding_all rfl)
      obtain ⟨d, hd5, rd5⟩ := rdR.get F7.keep (fun p hp => (N7 _ (.tail _ (.tail _ (.tail _ (.tail _ (.tail _ (.tail _ (.tail _ (hsT p hp))))))))).1) hv8
      have hdm := List.mem_of_getElem? hd5
      obtain ⟨hg, hz, hsmall, hany, hdt⟩ := hrow d hdm
      have rv := rdUse rd5 F7 N7 (fun p hp => .tail _ (.tail _ (.tail _ (.tail _ (.tail _ (.tail _ (.tail _ (hsT p hp))))))))
      rw [kids_tup hdt] at rv
      obtain ⟨a, _, _, _, rfl, _⟩ := reads_tup rv
      clear rv hv8
      have rd6 : Rd1 h₀ Tn (.ref a) (.tuple (kids d)) := by rw [← kids_tup hdt]; exact rd5
      have rd7 := rd5
      clear rd5
      have hz9 : sz d ≤ 900 := by omega
      have hsh : SeqAt.shaped d = true := by
        have h1 := hg.1
        have h2 := hg.2.1
        unfold SeqAt.shaped
        rw [h1, Bool.true_and]
        exact decide_eq_true (by omega)
      have hkl := len_kids d
      have hk9 : (kids d).length ≤ 2 ^ 20 := by omega
      have hk8 : (kids d).length ≤ 900 := by omega
      rcases Bool.eq_false_or_eq_true (formB d) with hf | hf
      · rw [hf] at hany
        walk_at "go11"; all_goals (try k_data)
        all_goals (try dsimp only)
        · rename News _ _ _ _ => N9
          rename Fr _ _ _ _ => F9
          refine itemLst (s := ⟨_, _, _, _, _⟩) N9 (.tail _ (.tail _ (.tail _ (.head _)))) (by omega) (by rw [readsAll_len RA, List.length_map]; omega) hz5 (fun v9 hv9 => ?_) (by with_unfolding_all rfl)
          obtain ⟨Ta, x, mt, p, rfl, hp, hTp, rdx⟩ := rdS _ _ hv9
          obtain ⟨eg, ez, es, ef⟩ := hext d hdm (by omega) p (List.mem_of_getElem? hp)
          have hTa := hTp _ F9.keep (fun q hq => (N9 _ (.tail _ (.tail _ (.tail _ (.tail _ (.tail _ (.tail _ (.tail _ (hsT q hq))))))))).1)
          clear hv9
          walk_at "go11"; all_goals (try k_data)
          all_goals (try dsimp only)
          refine itemPair0 (s := ⟨_, _, _, _, _⟩) hTa ?_ (by with_unfolding_all rfl)
          walk_at "go11"; all_goals (try k_data)
          all_goals (try dsimp only)
          rename News _ _ _ _ => N9
          rename Fr _ _ _ _ => F9
          have rv9 := rdUse rd6 F9 N9 (by intro p hp; repeat (first | exact hsT p hp | refine List.Mem.tail _ ?_))
          obtain ⟨x0, hx0⟩ := form_kid0 hf
          refine itemTup0 (s := ⟨_, _, _, _, _⟩) (d := .tuple (kids d)) rv9 rfl (by have := form_len hf; show 0 < (kids d).length; omega) (fun v9 r9 => ?_) (by intro _; with_unfolding_all rfl)
          have e9 : kid (.tuple (kids d)) 0 = .str x0 := by rw [← kids_tup hdt]; exact hx0
          rw [e9] at r9
          obtain ⟨t9, rfl⟩ := reads_strE r9 rfl
          clear rv9
          walk_at "go11"; all_goals (try k_data)
          all_goals (try dsimp only)
          · have hb : ∃ x, kid d 0 = .str x ∧ bareKind x := ⟨x0, hx0, bare_of (by assumption)⟩
            rename News _ _ _ _ => N10
            rename Fr _ _ _ _ => F10
            refine tidied_ok (s := ⟨_, _, _, _, _⟩) (rdUse rd7 F10 N10 (by intro p hp; repeat (first | exact hsT p hp | refine List.Mem.tail _ ?_))) hg hz9 hsmall hf hb A A₀ base h₀ [] _ L _ _ _ hh hA rfl rfl (by walk_at "room") (by walk_at "units") B0 F10 X T ?_
            intro v10 h10 tk10 dr10 kk10 F11 e10
            subst e10
            have N11 := Keep.news kk10 N10
            (try dsimp only)
            walk_at "go11"; all_goals (try k_data)
            all_goals (try dsimp only)
            rename Fr _ _ _ _ => F12
            rename News _ _ _ _ => N12
            exact close9 _ _ _ _ _ F12 (fun p hp => N12 p (by repeat (first | exact hp | refine List.Mem.tail _ ?_))) (offMap off (by rfl)) ⟨rfl, rfl, rfl, _, _, rfl, d8⟩
          · rename Fr _ _ _ _ => F12
            rename News _ _ _ _ => N12
            exact close9 _ _ _ _ _ F12 (fun p hp => N12 p (by repeat (first | exact hp | refine List.Mem.tail _ ?_))) (offMap off (by rfl)) ⟨rfl, rfl, rfl, _, _, rfl, d8⟩
        · rename News _ _ _ _ => N9
          rename Fr _ _ _ _ => F9
          have rv9 := rdUse rd6 F9 N9 (by intro p hp; repeat (first | exact hsT p hp | refine List.Mem.tail _ ?_))
          obtain ⟨x0, hx0⟩ := form_kid0 hf
          refine itemTup0 (s := ⟨_, _, _, _, _⟩) (d := .tuple (kids d)) rv9 rfl (by have := form_len hf; show 0 < (kids d).length; omega) (fun v9 r9 => ?_) (by intro _; with_unfolding_all rfl)
          have e9 : kid (.tuple (kids d)) 0 = .str x0 := by rw [← kids_tup hdt]; exact hx0
          rw [e9] at r9
          obtain ⟨t9, rfl⟩ := reads_strE r9 rfl
          clear rv9
          walk_at "go11"; all_goals (try k_data)
          all_goals (try dsimp only)
          · have hb : ∃ x, kid d 0 = .str x ∧ bareKind x := ⟨x0, hx0, bare_of (by assumption)⟩
            rename News _ _ _ _ => N10
            rename Fr _ _ _ _ => F10
            refine tidied_ok (s := ⟨_, _, _, _, _⟩) (rdUse rd7 F10 N10 (by intro p hp; repeat (first | exact hsT p hp | refine List.Mem.tail _ ?_))) hg hz9 hsmall hf hb A A₀ base h₀ [] _ L _ _ _ hh hA rfl rfl (by walk_at "room") (by walk_at "units") B0 F10 X T ?_
            intro v10 h10 tk10 dr10 kk10 F11 e10
            subst e10
            have N11 := Keep.news kk10 N10
            (try dsimp only)
            walk_at "go11"; all_goals (try k_data)
            all_goals (try dsimp only)
            rename Fr _ _ _ _ => F12
            rename News _ _ _ _ => N12
            exact close9 _ _ _ _ _ F12 (fun p hp => N12 p (by repeat (first | exact hp | refine List.Mem.tail _ ?_))) (offMap off (by rfl)) ⟨rfl, rfl, rfl, _, _, rfl, d8⟩
          · rename Fr _ _ _ _ => F12
            rename News _ _ _ _ => N12
            exact close9 _ _ _ _ _ F12 (fun p hp => N12 p (by repeat (first | exact hp | refine List.Mem.tail _ ?_))) (offMap off (by rfl)) ⟨rfl, rfl, rfl, _, _, rfl, d8⟩
      · rw [hf] at hany
        have hc9 : formB d = true → ∃ x, kid d 0 = .str x ∧ bareKind x := fun q => by rw [hf] at q; cases q
        walk_at "go11"; all_goals (try k_data)
        all_goals (try dsimp only)
        · rename News _ _ _ _ => N9
          rename Fr _ _ _ _ => F9
          refine itemLst (s := ⟨_, _, _, _, _⟩) N9 (.tail _ (.tail _ (.tail _ (.head _)))) (by omega) (by rw [readsAll_len RA, List.length_map]; omega) hz5 (fun v9 hv9 => ?_) (by with_unfolding_all rfl)
          obtain ⟨Ta, x, mt, p, rfl, hp, hTp, rdx⟩ := rdS _ _ hv9
          obtain ⟨eg, ez, es, ef⟩ := hext d hdm (by omega) p (List.mem_of_getElem? hp)
          have hTa := hTp _ F9.keep (fun q hq => (N9 _ (.tail _ (.tail _ (.tail _ (.tail _ (.tail _ (.tail _ (.tail _ (hsT q hq))))))))).1)
          clear hv9
          walk_at "go11"; all_goals (try k_data)
          all_goals (try dsimp only)
          refine itemPair0 (s := ⟨_, _, _, _, _⟩) hTa ?_ (by with_unfolding_all rfl)
          walk_at "go11"; all_goals (try k_data)
          all_goals (try dsimp only)
          rename News _ _ _ _ => N9
          rename Fr _ _ _ _ => F9
          refine refused_ok (s := ⟨_, _, _, _, _⟩) (rdUse rd7 F9 N9 (by intro p hp; repeat (first | exact hsT p hp | refine List.Mem.tail _ ?_))) hg hz9 hsmall hf hh hA rfl rfl (by walk_at "room") (by walk_at "units") B0 F9 X T ?_
          intro P h10 tk10 dr10 k10 F10 hP10
          dsimp only at k10
          have N10 : News h₀ L h10 _ := fun p hp => ⟨k10 _ _ (N9 p hp).2.1 (N9 p hp).1, (N9 p hp).2⟩
          (try dsimp only)
          refine wpAny_Tuple (s := ⟨_, _, _, _, _⟩) (spliced_nil (s := ⟨_, _, _, _, _⟩) ⟨by rw [sizeLine_eq]; decide, ?_⟩)
          have k11 : Keep h10 (h10.push { cls := .type "tuple", data := .seq ([] : List Value).toArray }) := fun b o e => Heap.get?_push_of_some _ e
          have F11 := Keep.fr k11 F10
          have N11 := Keep.news k11 N10
          refine neNilT (s := ⟨_, _, _, _, _⟩) (IsTup.keeps hP10 k11) ⟨_, Heap.get?_push_size _ rfl, rfl, _, rfl⟩ (by omega) ?_
          (try dsimp only)
          walk_at "go11"; all_goals (try k_data)
          all_goals (try dsimp only)
          rename Fr _ _ _ _ => F12
          rename News _ _ _ _ => N12
          exact close9 _ _ _ _ _ F12 (fun p hp => N12 p (by repeat (first | exact hp | refine List.Mem.tail _ ?_))) (offMap off (by rfl)) ⟨rfl, rfl, rfl, _, _, rfl, d8⟩
        · rename News _ _ _ _ => N9
          rename Fr _ _ _ _ => F9
          refine refused_ok (s := ⟨_, _, _, _, _⟩) (rdUse rd7 F9 N9 (by intro p hp; repeat (first | exact hsT p hp | refine List.Mem.tail _ ?_))) hg hz9 hsmall hf hh hA rfl rfl (by walk_at "room") (by walk_at "units") B0 F9 X T ?_
          intro P h10 tk10 dr10 k10 F10 hP10
          dsimp only at k10
          have N10 : News h₀ L h10 _ := fun p hp => ⟨k10 _ _ (N9 p hp).2.1 (N9 p hp).1, (N9 p hp).2⟩
          (try dsimp only)
          refine wpAny_Tuple (s := ⟨_, _, _, _, _⟩) (spliced_nil (s := ⟨_, _, _, _, _⟩) ⟨by rw [sizeLine_eq]; decide, ?_⟩)
          have k11 : Keep h10 (h10.push { cls := .type "tuple", data := .seq ([] : List Value).toArray }) := fun b o e => Heap.get?_push_of_some _ e
          have F11 := Keep.fr k11 F10
          have N11 := Keep.news k11 N10
          refine neNilT (s := ⟨_, _, _, _, _⟩) (IsTup.keeps hP10 k11) ⟨_, Heap.get?_push_size _ rfl, rfl, _, rfl⟩ (by omega) ?_
          (try dsimp only)
          walk_at "go11"; all_goals (try k_data)
          all_goals (try dsimp only)
          rename Fr _ _ _ _ => F12
          rename News _ _ _ _ => N12
          exact close9 _ _ _ _ _ F12 (fun p hp => N12 p (by repeat (first | exact hp | refine List.Mem.tail _ ?_))) (offMap off (by rfl)) ⟨rfl, rfl, rfl, _, _, rfl, d8⟩
    · rintro h tk dr m₁ news₁ F5 N5 ⟨m1, m2, m3, o', t3', rfl, hD'⟩
      walk_at "go6"; all_goals (try k_data)
      all_goals (try dsimp only)
      exact ret _ _ _ _ F5
theorem all : ∀ c : (World) × (ExcName → Option Value) × (Str → Option Value) × (Str → Option Value) × (Shared) × (Around) × (Around) × (Heap) × (Heap) × (Addr) × (Addr) × (Addr) × (Addr) × (Addr) × (Str → Option Value) × (Flow → Shared → Prop) × (Value → Shared → Prop) × (Obj) × (Obj) × (List Value) × (List Int) × (Tok) × (Value) × (List Value) × (List (PyData × Str)) × (Nat) × (List (Addr × Obj)), Wk c.1 c.2.1 c.2.2.1 c.2.2.2.1 c.2.2.2.2.1 c.2.2.2.2.2.1 c.2.2.2.2.2.2.1 c.2.2.2.2.2.2.2.1 c.2.2.2.2.2.2.2.2.1 c.2.2.2.2.2.2.2.2.2.1 c.2.2.2.2.2.2.2.2.2.2.1 c.2.2.2.2.2.2.2.2.2.2.2.1 c.2.2.2.2.2.2.2.2.2.2.2.2.1 c.2.2.2.2.2.2.2.2.2.2.2.2.2.1 c.2.2.2.2.2.2.2.2.2.2.2.2.2.2.1 c.2.2.2.2.2.2.2.2.2.2.2.2.2.2.2.1 c.2.2.2.2.2.2.2.2.2.2.2.2.2.2.2.2.1 c.2.2.2.2.2.2.2.2.2.2.2.2.2.2.2.2.2.1 c.2.2.2.2.2.2.2.2.2.2.2.2.2.2.2.2.2.2.1 c.2.2.2.2.2.2.2.2.2.2.2.2.2.2.2.2.2.2.2.1 c.2.2.2.2.2.2.2.2.2.2.2.2.2.2.2.2.2.2.2.2.1 c.2.2.2.2.2.2.2.2.2.2.2.2.2.2.2.2.2.2.2.2.2.1 c.2.2.2.2.2.2.2.2.2.2.2.2.2.2.2.2.2.2.2.2.2.2.1 c.2.2.2.2.2.2.2.2.2.2.2.2.2.2.2.2.2.2.2.2.2.2.2.1 c.2.2.2.2.2.2.2.2.2.2.2.2.2.2.2.2.2.2.2.2.2.2.2.2.1 c.2.2.2.2.2.2.2.2.2.2.2.2.2.2.2.2.2.2.2.2.2.2.2.2.2.1 c.2.2.2.2.2.2.2.2.2.2.2.2.2.2.2.2.2.2.2.2.2.2.2.2.2.2 := pickA_all (h := inhab) (p := fun c => Wk c.1 c.2.1 c.2.2.1 c.2.2.2.1 c.2.2.2.2.1 c.2.2.2.2.2.1 c.2.2.2.2.2.2.1 c.2.2.2.2.2.2.2.1 c.2.2.2.2.2.2.2.2.1 c.2.2.2.2.2.2.2.2.2.1 c.2.2.2.2.2.2.2.2.2.2.1 c.2.2.2.2.2.2.2.2.2.2.2.1 c.2.2.2.2.2.2.2.2.2.2.2.2.1 c.2.2.2.2.2.2.2.2.2.2.2.2.2.1 c.2.2.2.2.2.2.2.2.2.2.2.2.2.2.1 c.2.2.2.2.2.2.2.2.2.2.2.2.2.2.2.1 c.2.2.2.2.2.2.2.2.2.2.2.2.2.2.2.2.1 c.2.2.2.2.2.2.2.2.2.2.2.2.2.2.2.2.2.1 c.2.2.2.2.2.2.2.2.2.2.2.2.2.2.2.2.2.2.1 c.2.2.2.2.2.2.2.2.2.2.2.2.2.2.2.2.2.2.2.1 c.2.2.2.2.2.2.2.2.2.2.2.2.2.2.2.2.2.2.2.2.1 c.2.2.2.2.2.2.2.2.2.2.2.2.2.2.2.2.2.2.2.2.2.1 c.2.2.2.2.2.2.2.2.2.2.2.2.2.2.2.2.2.2.2.2.2.2.1 c.2.2.2.2.2.2.2.2.2.2.2.2.2.2.2.2.2.2.2.2.2.2.2.1 c.2.2.2.2.2.2.2.2.2.2.2.2.2.2.2.2.2.2.2.2.2.2.2.2.1 c.2.2.2.2.2.2.2.2.2.2.2.2.2.2.2.2.2.2.2.2.2.2.2.2.2.1 c.2.2.2.2.2.2.2.2.2.2.2.2.2.2.2.2.2.2.2.2.2.2.2.2.2.2) (by with_unfolding_all exact @here)
end law_tail_n
theorem law_tail {w : World} {mean : ExcName → Option Value} {mg mb : Str → Option Value} {s : Shared} {A A₀ : Around} {base h₀ : Heap} {L D R S f : Addr} {m : Str → Option Value} {Q : Flow → Shared → Prop} {E : Value → Shared → Prop} {o ocl : Obj} {ys : List Value} {ns : List Int} {t3 : Tok}
    {name qual : Str} {params : Arguments} {body : List Stmt} {s1 s2 s3 : Stmt} {scope : Scope} {dV kV doc pm cdv ct oc cd : Value} {an od : Option Addr} {osl : Array (Option Value)} {vs : List Value} {ps : List (PyData × Str)} {ks : Nat} {Ts : List (Addr × Obj)}
    (hlk : (Mine.hd.heap_39 w.params).lookup 236 = some ⟨oc, od, .func (fnOf name qual params (s1 :: s2 :: s3 :: body) scope dV kV doc pm an cdv ct), osl⟩)
    (hh : A.handled = none) (hA : A.frames = some [envOfC qual scope L f cd]) (hd : A.depth + 20 < recursionLimit) (hu : A.units + 2000 < cLine)
    (B : Below A₀ base [] h₀) (F : Fr h₀ L s.heap m) (X : (Mine.hd.heap_39 w.params).In h₀) (T : TopH mean mg mb h₀)
    (N : News h₀ L s.heap ((S, listOf vs.toArray ks) :: (D, o) :: (R, LCg.lst ys) :: (L + 1, ocl) :: Ts)) (hS : m (Str.ofString "some") = some (.ref S)) (hcl : ocl.data = .cell (some (.ref D)))
    (hneR : @Ne Nat R D) (hneC : @Ne Nat (L + 1) D) (hneT : ∀ p ∈ Ts, @Ne Nat p.1 D) (hneS : @Ne Nat S D)
    (hI : IntsAre ys ns) (hlen : ns.length ≤ 20) (hD : o.IsDictOf (PySem.strKind PG w) [(Str.ofString "row", .ref R), (Str.ofString "at", .int 5 t3)]) (lo : (D == sysModules) = false)
    (RA : ReadsAll s.heap vs (ps.map pairD) []) (hps : ∀ p ∈ ps, p ∈ kindsS.map (fun x => (PyData.str x, Str.ofString "to")) ++ thingsD) (hp5 : ps.length = 5)
    (hrow : ∀ d ∈ foundD (ps.map (·.1)) 3, RowOK ps d) (hext : ∀ d ∈ foundD (ps.map (·.1)) 3, (kids d).length = 3 → ∀ p ∈ ps, good 51 (.tuple (kids d ++ [p.1])) ∧ sz (.tuple (kids d ++ [p.1])) ≤ 900 ∧ ((kids (kid (.tuple (kids d ++ [p.1])) 2)).all pairOk = true → (kids (kid (.tuple (kids d ++ [p.1])) 2)).length ≤ 2) ∧ formB (.tuple (kids d ++ [p.1])) = false)
    (hl156 : (foundD (ps.map (·.1)) 3).length = 156) (hpap : SeqAt.shaped (.list (papersD ps)) = true)
    (ret : ∀ h' tk dr m', Fr h₀ L h' m' → Q (.ret (.bool true)) { s with heap := h', toks := tk, drawn := dr }) :
    wpAny (model PG w) A (execs body (envOfC qual scope L f cd)) Q E s :=
  law_tail_n.all (w, mean, mg, mb, s, A, A₀, base, h₀, L, D, R, S, f, m, Q, E, o, ocl, ys, ns, t3, cd, vs, ps, ks, Ts) name qual params body s1 s2 s3 scope dV kV doc pm cdv ct oc an od osl hlk hh hA hd hu B F X T N hS hcl hneR hneC hneT hneS hI hlen hD lo RA hps hp5 hrow hext hl156 hpap ret
end
section
open PySem.SeqAt
noncomputable def okPairs : List (PyData × Str) := kindsS.map (fun x => (PyData.str x, Str.ofString "to")) ++ thingsD
mutual
noncomputable def clean : PyData → Bool
  | .int _ => true
  | .str _ => true
  | .tuple xs => cleanAll xs
  | _ => false
noncomputable def cleanAll : List PyData → Bool
  | [] => true
  | d :: r => clean d && cleanAll r
end
mutual
theorem clean_mix : ∀ a b : PyData, clean a = true → clean b = true → noMix a b = true
  | .int _, .int _, _, _ => rfl
  | .int _, .str _, _, _ => rfl
  | .int _, .tuple _, _, _ => rfl
  | .str _, .int _, _, _ => rfl
  | .str _, .str _, _, _ => rfl
  | .str _, .tuple _, _, _ => rfl
  | .tuple _, .int _, _, _ => rfl
  | .tuple _, .str _, _, _ => rfl
  | .tuple xs, .tuple ys, h, k => by
    simp only [noMix]
    exact cleanAll_mix xs ys (by simpa [clean] using h) (by simpa [clean] using k)
  | .none, _, h, _ => by simp [clean] at h
  | .bool _, _, h, _ => by simp [clean] at h
  | .list _, _, h, _ => by simp [clean] at h
  | .dict _, _, h, _ => by simp [clean] at h
  | .int _, .none, _, h => by simp [clean] at h
  | .int _, .bool _, _, h => by simp [clean] at h
  | .int _, .list _, _, h => by simp [clean] at h
  | .int _, .dict _, _, h => by simp [clean] at h
  | .str _, .none, _, h => by simp [clean] at h
  | .str _, .bool _, _, h => by simp [clean] at h
  | .str _, .list _, _, h => by simp [clean] at h
  | .str _, .dict _, _, h => by simp [clean] at h
  | .tuple _, .none, _, h => by simp [clean] at h
  | .tuple _, .bool _, _, h => by simp [clean] at h
  | .tuple _, .list _, _, h => by simp [clean] at h
  | .tuple _, .dict _, _, h => by simp [clean] at h
theorem cleanAll_mix : ∀ a b : List PyData, cleanAll a = true → cleanAll b = true → noMixAll a b = true
  | [], [], _, _ => rfl
  | [], _ :: _, _, _ => rfl
  | _ :: _, [], _, _ => rfl
  | x :: xs, y :: ys, h, k => by
    simp only [cleanAll, Bool.and_eq_true] at h k
    simp only [noMixAll, clean_mix x y h.1 k.1, cleanAll_mix xs ys h.2 k.2, Bool.and_self]
end
theorem eqv_clean {a b : PyData} (h : clean a = true) (k : clean b = true) : PyData.eqv a b = true ↔ a = b := by
  rw [← same_eq_eqv a b (clean_mix a b h k)]; exact same_iff
noncomputable def thingOK (p : PyData × Str) : Bool :=
  p.1.canLay0 && decide (p.1.depth ≤ 10) && decide (sz p.1 ≤ 40) && clean p.1 && (!(kids p.1).all pairOk || decide ((kids p.1).length ≤ 2)) &&
    (hasM "m" p.2 == plainB p.1) && (hasM "t" p.2 == isStr p.1) && (hasM "p" p.2 == placesB p.1) && (hasM "o" p.2 == plainB (.tuple [p.1])) && (hasM "u" p.2 == isTup p.1)
theorem things_ok : okPairs.all thingOK = true := by decide +kernel
structure TOK (p : PyData × Str) : Prop where
  lay : p.1.canLay0 = true
  dep : p.1.depth ≤ 10
  size : sz p.1 ≤ 40
  cl : clean p.1 = true
  small : (kids p.1).all pairOk = true → (kids p.1).length ≤ 2
  m : hasM "m" p.2 = plainB p.1
  t : hasM "t" p.2 = isStr p.1
  pl : hasM "p" p.2 = placesB p.1
  o : hasM "o" p.2 = plainB (.tuple [p.1])
  u : hasM "u" p.2 = isTup p.1
theorem tok {p : PyData × Str} (h : p ∈ okPairs) : TOK p := by
  have := List.all_eq_true.mp things_ok p h
  simp only [thingOK, Bool.and_eq_true, decide_eq_true_eq, beq_iff_eq, Bool.or_eq_true, Bool.not_eq_true'] at this
  obtain ⟨⟨⟨⟨⟨⟨⟨⟨⟨a, b⟩, c⟩, d⟩, e⟩, f⟩, g⟩, h⟩, i⟩, j⟩ := this
  exact ⟨a, b, c, d, fun q => by rcases e with e | e; (rw [q] at e; cases e); exact e, f, g, h, i, j⟩
theorem st_ok (x : Str) (h : PyData.strOk x = true) : (PyData.str x).canLay0 = true := by simpa [PyData.canLay0] using h
theorem mem_edge {ds : List PyData} {i : Nat} {d : PyData} (h : d ∈ edgeD ds i) : ∃ l, d = .tuple l ∧ l.length = i ∧ ∀ e ∈ l, e ∈ ds := by
  induction i generalizing d with
  | zero => simp [edgeD] at h; subst h; exact ⟨[], rfl, rfl, by simp⟩
  | succ i ih =>
    simp only [edgeD, rowStep, List.mem_flatMap, List.mem_map] at h
    obtain ⟨b, hb, c, hc, rfl⟩ := h
    obtain ⟨l, rfl, hl, hm⟩ := ih hb
    refine ⟨l ++ [c], rfl, by simp [hl], fun e he => ?_⟩
    rcases List.mem_append.mp he with he | he
    · exact hm e he
    · rw [List.mem_singleton.mp he]; exact hc
theorem mem_found {ds : List PyData} {i : Nat} {d : PyData} (h : d ∈ foundD ds i) : ∃ l, d = .tuple l ∧ l.length ≤ i ∧ ∀ e ∈ l, e ∈ ds := by
  induction i with
  | zero => simp [foundD] at h; subst h; exact ⟨[], rfl, by simp, by simp⟩
  | succ i ih =>
    simp only [foundD, List.mem_append] at h
    rcases h with h | h
    · obtain ⟨l, e, hl, hm⟩ := ih h; exact ⟨l, e, by omega, hm⟩
    · obtain ⟨l, e, hl, hm⟩ := mem_edge h; exact ⟨l, e, by omega, hm⟩
theorem cleanAll_of : ∀ {l : List PyData}, (∀ e ∈ l, clean e = true) → cleanAll l = true
  | [], _ => rfl
  | d :: r, h => by simp only [cleanAll, h d (.head _), cleanAll_of fun e he => h e (.tail _ he), Bool.and_self]
theorem szAll_of {n : Nat} : ∀ {l : List PyData}, (∀ e ∈ l, sz e ≤ n) → szAll l ≤ n * l.length
  | [], _ => by simp [szAll]
  | d :: r, h => by
    have := szAll_of (l := r) fun e he => h e (.tail _ he)
    have h2 := h d (.head _)
    simp only [szAll, List.length_cons, Nat.mul_succ]; omega
theorem good_tup {l : List PyData} (h : ∀ e ∈ l, e.canLay0 = true ∧ e.depth ≤ 10 ∧ sz e ≤ 40) (hl : l.length ≤ 4) : good 51 (.tuple l) ∧ sz (.tuple l) ≤ 161 := by
  have h1 : PyData.canLayAll0 l = true := canLayAll_of fun d hd => (h d hd).1
  have h2 := depthAll_of fun d hd => (h d hd).2.1
  have h3 := szAll_of fun d hd => (h d hd).2.2
  have h4 : sz (.tuple l) ≤ 161 := by simp only [sz]; have : 40 * l.length ≤ 160 := by omega
                                      omega
  exact ⟨⟨by simpa [PyData.canLay0] using h1, by simp only [PyData.depth]; omega, by omega⟩, h4⟩
theorem beq_ne {x y : Str} (h : ¬ x = y) : (x == y) = false := by simpa using h
theorem form2 {a b : PyData} : formB (.tuple [a, b]) = true ↔ (a = st "same" ∧ plainB b = true) ∨ (a = st "told" ∧ isStr b = true) ∨ a = st "turn" := by
  cases a with
  | str x =>
    have e : formB (.tuple [.str x, b]) = formS 2 x (plainB b) (isStr b) (placesB .none) (plainB (.tuple [b])) (isTup .none) := by simp [formB, isTup, kids, kid]
    rw [e]
    simp only [PyData.str.injEq]
    by_cases h1 : x = Str.ofString "same"
    · subst h1
      have k1 : ¬ Str.ofString "same" = Str.ofString "told" := by decide
      have k2 : ¬ Str.ofString "same" = Str.ofString "turn" := by decide
      simp [formS, k1, k2]
    · by_cases h2 : x = Str.ofString "told"
      · subst h2
        have k2 : ¬ Str.ofString "told" = Str.ofString "turn" := by decide
        simp [formS, h1, k2, beq_ne h1]
      · by_cases h3 : x = Str.ofString "rule"
        · subst h3
          have k2 : ¬ Str.ofString "rule" = Str.ofString "turn" := by decide
          simp [formS, h1, h2, k2, beq_ne h1, beq_ne h2]
        · by_cases h4 : x = Str.ofString "under"
          · subst h4
            have k2 : ¬ Str.ofString "under" = Str.ofString "turn" := by decide
            simp [formS, h1, h2, h3, k2, beq_ne h1, beq_ne h2, beq_ne h3]
          · simp [formS, h1, h2, beq_ne h1, beq_ne h2, beq_ne h3, beq_ne h4]
  | _ => simp [formB, isTup, kids, kid]
theorem form3 {a b c : PyData} : formB (.tuple [a, b, c]) = true ↔ (a = st "rule" ∧ isStr b = true ∧ placesB c = true) ∨ (a = st "under" ∧ plainB (.tuple [b]) = true ∧ isTup c = true) ∨ a = st "join" := by
  cases a with
  | str x =>
    have e : formB (.tuple [.str x, b, c]) = formS 3 x (plainB b) (isStr b) (placesB c) (plainB (.tuple [b])) (isTup c) := by simp [formB, isTup, kids, kid]
    rw [e]
    simp only [PyData.str.injEq]
    by_cases h1 : x = Str.ofString "same"
    · subst h1
      have k1 : ¬ Str.ofString "same" = Str.ofString "rule" := by decide
      have k2 : ¬ Str.ofString "same" = Str.ofString "under" := by decide
      have k3 : ¬ Str.ofString "same" = Str.ofString "join" := by decide
      simp [formS, k1, k2, k3]
    · by_cases h2 : x = Str.ofString "told"
      · subst h2
        have k1 : ¬ Str.ofString "told" = Str.ofString "rule" := by decide
        have k2 : ¬ Str.ofString "told" = Str.ofString "under" := by decide
        have k3 : ¬ Str.ofString "told" = Str.ofString "join" := by decide
        simp [formS, h1, k1, k2, k3, beq_ne h1]
      · by_cases h3 : x = Str.ofString "rule"
        · subst h3
          have k2 : ¬ Str.ofString "rule" = Str.ofString "under" := by decide
          have k3 : ¬ Str.ofString "rule" = Str.ofString "join" := by decide
          simp [formS, k2, k3, beq_ne h1, beq_ne h2]
        · by_cases h4 : x = Str.ofString "under"
          · subst h4
            have k3 : ¬ Str.ofString "under" = Str.ofString "join" := by decide
            simp [formS, h3, k3, beq_ne h1, beq_ne h2, beq_ne h3]
          · simp [formS, h3, h4, beq_ne h1, beq_ne h2, beq_ne h3, beq_ne h4]
  | _ => simp [formB, isTup, kids, kid]
theorem mem_head {p : PyData × Str} {y : PyData} : y ∈ headD p ↔ y = .tuple [st "turn", p.1] ∨ (hasM "m" p.2 = true ∧ y = .tuple [st "same", p.1]) ∨ (hasM "t" p.2 = true ∧ y = .tuple [st "told", p.1]) := by
  unfold headD
  cases hasM "m" p.2 <;> cases hasM "t" p.2 <;> simp
theorem mem_inner {p q : PyData × Str} {y : PyData} : y ∈ innerD p q ↔ y = .tuple [st "join", p.1, q.1] ∨ ((hasM "t" p.2 = true ∧ hasM "p" q.2 = true) ∧ y = .tuple [st "rule", p.1, q.1]) ∨ ((hasM "o" p.2 = true ∧ hasM "u" q.2 = true) ∧ y = .tuple [st "under", p.1, q.1]) := by
  unfold innerD
  cases hasM "t" p.2 <;> cases hasM "p" q.2 <;> cases hasM "o" p.2 <;> cases hasM "u" q.2 <;> simp
theorem mem_papers {ps : List (PyData × Str)} {y : PyData} : y ∈ papersD ps ↔ ∃ p ∈ ps, y ∈ headD p ∨ ∃ q ∈ ps, y ∈ innerD p q := by
  simp only [papersD, outerD, List.mem_flatMap, List.mem_append]
section
variable {ps : List (PyData × Str)}
theorem kindlay : ∀ x ∈ ["same", "told", "rule", "turn", "join", "under"], (st x).canLay0 = true ∧ (st x).depth ≤ 10 ∧ sz (st x) ≤ 40 ∧ clean (st x) = true := by decide +kernel
theorem paper_ok (hps : ∀ p ∈ ps, p ∈ okPairs) {y : PyData} (hy : y ∈ papersD ps) : ∃ l, y = .tuple l ∧ l.length ≤ 3 ∧ ∀ e ∈ l, (e.canLay0 = true ∧ e.depth ≤ 10 ∧ sz e ≤ 40) ∧ clean e = true := by
  have k : ∀ {x : String}, x ∈ ["same", "told", "rule", "turn", "join", "under"] → (((st x).canLay0 = true ∧ (st x).depth ≤ 10 ∧ sz (st x) ≤ 40) ∧ clean (st x) = true) := fun h => let ⟨a, b, c, d⟩ := kindlay _ h; ⟨⟨a, b, c⟩, d⟩
  have t : ∀ {p}, p ∈ ps → ((p.1.canLay0 = true ∧ p.1.depth ≤ 10 ∧ sz p.1 ≤ 40) ∧ clean p.1 = true) := fun h => let q := tok (hps _ h); ⟨⟨q.lay, q.dep, q.size⟩, q.cl⟩
  obtain ⟨p, hp, h | ⟨q, hq, h⟩⟩ := mem_papers.mp hy
  · rcases mem_head.mp h with rfl | ⟨_, rfl⟩ | ⟨_, rfl⟩ <;>
    (refine ⟨_, rfl, by simp, fun e he => ?_⟩
     simp only [List.mem_cons, List.not_mem_nil, or_false] at he
     rcases he with rfl | rfl
     · exact k (by decide)
     · exact t hp)
  · rcases mem_inner.mp h with rfl | ⟨_, rfl⟩ | ⟨_, rfl⟩ <;>
    (refine ⟨_, rfl, by simp, fun e he => ?_⟩
     simp only [List.mem_cons, List.not_mem_nil, or_false] at he
     rcases he with rfl | rfl | rfl
     · exact k (by decide)
     · exact t hp
     · exact t hq)
theorem plain_pap (hps : ∀ p ∈ ps, p ∈ okPairs) : SeqAt.shaped (.list (papersD ps)) = true :=
  good_shaped (n := 51) (fun y hy => by
    obtain ⟨l, rfl, hl, h⟩ := paper_ok hps hy
    exact (good_tup (fun e he => (h e he).1) (by omega)).1) (by omega)
theorem plain_156 (hp5 : ps.length = 5) : (foundD (ps.map (·.1)) 3).length = 156 := by
  have h : (ps.map (·.1)).length = 5 := by rw [List.length_map]; exact hp5
  simp [foundD, edgeD, len_rowStep, h]
theorem row_any (hps : ∀ p ∈ ps, p ∈ okPairs) {l : List PyData} (hl : l.length ≤ 3) (hm : ∀ e ∈ l, e ∈ ps.map (·.1)) : ((papersD ps).any fun y => PyData.eqv y (.tuple l)) = formB (.tuple l) := by
  have hc : clean (.tuple l) = true := by
    simp only [clean]
    refine cleanAll_of fun e he => ?_
    obtain ⟨p, hp, rfl⟩ := List.mem_map.mp (hm e he)
    exact (tok (hps p hp)).cl
  have h1 : ((papersD ps).any fun y => PyData.eqv y (.tuple l)) = true ↔ .tuple l ∈ papersD ps := by
    rw [List.any_eq_true]
    constructor
    · rintro ⟨y, hy, he⟩
      obtain ⟨l', rfl, _, h'⟩ := paper_ok hps hy
      have : clean (.tuple l') = true := by simp only [clean]; exact cleanAll_of fun e he => (h' e he).2
      rw [← (eqv_clean this hc).mp he]; exact hy
    · intro hy
      exact ⟨_, hy, (eqv_clean hc hc).mpr rfl⟩
  rw [Bool.eq_iff_iff, h1]
  match l, hl, hm with
  | [], _, _ =>
    constructor
    · intro h
      obtain ⟨p, hp, h | ⟨q, hq, h⟩⟩ := mem_papers.mp h
      · rcases mem_head.mp h with h | ⟨_, h⟩ | ⟨_, h⟩ <;> simp at h
      · rcases mem_inner.mp h with h | ⟨_, h⟩ | ⟨_, h⟩ <;> simp at h
    · intro h; simp [formB, isTup, kids] at h
  | [a], _, _ =>
    constructor
    · intro h
      obtain ⟨p, hp, h | ⟨q, hq, h⟩⟩ := mem_papers.mp h
      · rcases mem_head.mp h with h | ⟨_, h⟩ | ⟨_, h⟩ <;> simp at h
      · rcases mem_inner.mp h with h | ⟨_, h⟩ | ⟨_, h⟩ <;> simp at h
    · intro h; simp [formB, isTup, kids] at h
  | [a, b], _, hm =>
    rw [form2]
    constructor
    · intro h
      obtain ⟨p, hp, h | ⟨q, hq, h⟩⟩ := mem_papers.mp h
      · have T := tok (hps p hp)
        rcases mem_head.mp h with h | ⟨h2, h⟩ | ⟨h2, h⟩
        · simp only [PyData.tuple.injEq, List.cons.injEq, and_true] at h; exact .inr (.inr h.1)
        · simp only [PyData.tuple.injEq, List.cons.injEq, and_true] at h; exact .inl ⟨h.1, by rw [h.2, ← T.m, h2]⟩
        · simp only [PyData.tuple.injEq, List.cons.injEq, and_true] at h; exact .inr (.inl ⟨h.1, by rw [h.2, ← T.t, h2]⟩)
      · rcases mem_inner.mp h with h | ⟨_, h⟩ | ⟨_, h⟩ <;> simp at h
    · intro h
      obtain ⟨p, hp, rfl⟩ := List.mem_map.mp (hm b (by simp))
      have T := tok (hps p hp)
      refine mem_papers.mpr ⟨p, hp, .inl (mem_head.mpr ?_)⟩
      rcases h with ⟨rfl, h⟩ | ⟨rfl, h⟩ | rfl
      · exact .inr (.inl ⟨by rw [T.m, h], rfl⟩)
      · exact .inr (.inr ⟨by rw [T.t, h], rfl⟩)
      · exact .inl rfl
  | [a, b, c], _, hm =>
    rw [form3]
    constructor
    · intro h
      obtain ⟨p, hp, h | ⟨q, hq, h⟩⟩ := mem_papers.mp h
      · rcases mem_head.mp h with h | ⟨_, h⟩ | ⟨_, h⟩ <;> simp at h
      · have T := tok (hps p hp)
        have U := tok (hps q hq)
        rcases mem_inner.mp h with h | ⟨⟨h2, h3⟩, h⟩ | ⟨⟨h2, h3⟩, h⟩
        · simp only [PyData.tuple.injEq, List.cons.injEq, and_true] at h; exact .inr (.inr h.1)
        · simp only [PyData.tuple.injEq, List.cons.injEq, and_true] at h; exact .inl ⟨h.1, by rw [h.2.1, ← T.t, h2], by rw [h.2.2, ← U.pl, h3]⟩
        · simp only [PyData.tuple.injEq, List.cons.injEq, and_true] at h; exact .inr (.inl ⟨h.1, by rw [h.2.1, ← T.o, h2], by rw [h.2.2, ← U.u, h3]⟩)
    · intro h
      obtain ⟨p, hp, rfl⟩ := List.mem_map.mp (hm b (by simp))
      obtain ⟨q, hq, rfl⟩ := List.mem_map.mp (hm c (by simp))
      have T := tok (hps p hp)
      have U := tok (hps q hq)
      refine mem_papers.mpr ⟨p, hp, .inr ⟨q, hq, mem_inner.mpr ?_⟩⟩
      rcases h with ⟨rfl, h, h'⟩ | ⟨rfl, h, h'⟩ | rfl
      · exact .inr (.inl ⟨⟨by rw [T.t, h], by rw [U.pl, h']⟩, rfl⟩)
      · exact .inr (.inr ⟨⟨by rw [T.o, h], by rw [U.u, h']⟩, rfl⟩)
      · exact .inl rfl
  | _ :: _ :: _ :: _ :: _, hl, _ => simp at hl
theorem small_kid (hps : ∀ p ∈ ps, p ∈ okPairs) {l : List PyData} (hm : ∀ e ∈ l, e ∈ ps.map (·.1)) (k : Nat) : (kids (kid (.tuple l) k)).all pairOk = true → (kids (kid (.tuple l) k)).length ≤ 2 := by
  rcases Nat.lt_or_ge k l.length with h | h
  · have : kid (.tuple l) k ∈ l := kid_mem (d := .tuple l) h
    obtain ⟨p, hp, e⟩ := List.mem_map.mp (hm _ this)
    rw [← e]
    exact (tok (hps p hp)).small
  · have : kid (.tuple l) k = .none := by unfold kid; simp only [kids]; rw [List.getD_eq_getElem?_getD, List.getElem?_eq_none h]; rfl
    rw [this]; intro _; simp [kids]
theorem all_ok (hps : ∀ p ∈ ps, p ∈ okPairs) {l : List PyData} (hm : ∀ e ∈ l, e ∈ ps.map (·.1)) : ∀ e ∈ l, e.canLay0 = true ∧ e.depth ≤ 10 ∧ sz e ≤ 40 := fun e he => by
  obtain ⟨p, hp, rfl⟩ := List.mem_map.mp (hm e he)
  have T := tok (hps p hp)
  exact ⟨T.lay, T.dep, T.size⟩
theorem plain_rows (hps : ∀ p ∈ ps, p ∈ okPairs) (hp5 : ps.length = 5) : ∀ d ∈ foundD (ps.map (·.1)) 3, RowOK ps d := fun d hd => by
  obtain ⟨l, rfl, hl, hm⟩ := mem_found hd
  obtain ⟨g1, g2⟩ := good_tup (all_ok hps hm) (by omega)
  exact ⟨g1, by omega, small_kid hps hm 2, row_any hps hl hm, rfl⟩
theorem plain_ext (hps : ∀ p ∈ ps, p ∈ okPairs) (hp5 : ps.length = 5) : ∀ d ∈ foundD (ps.map (·.1)) 3, (kids d).length = 3 → ∀ p ∈ ps, good 51 (.tuple (kids d ++ [p.1])) ∧ sz (.tuple (kids d ++ [p.1])) ≤ 900 ∧ ((kids (kid (.tuple (kids d ++ [p.1])) 2)).all pairOk = true → (kids (kid (.tuple (kids d ++ [p.1])) 2)).length ≤ 2) ∧ formB (.tuple (kids d ++ [p.1])) = false := fun d hd h3 p hp => by
  obtain ⟨l, rfl, hl, hm⟩ := mem_found hd
  simp only [kids] at h3 ⊢
  have hm2 : ∀ e ∈ l ++ [p.1], e ∈ ps.map (·.1) := fun e he => by
    rcases List.mem_append.mp he with he | he
    · exact hm e he
    · rw [List.mem_singleton.mp he]; exact List.mem_map.mpr ⟨p, hp, rfl⟩
  obtain ⟨g1, g2⟩ := good_tup (all_ok hps hm2) (by rw [List.length_append, List.length_singleton]; omega)
  refine ⟨g1, by omega, small_kid hps hm2 2, ?_⟩
  match l, h3 with
  | [a, b, c], _ =>
    cases a with
    | str x =>
      have e : formB (.tuple [.str x, b, c, p.1]) = formS 4 x (plainB b) (isStr b) (placesB c) (plainB (.tuple [b])) (isTup c) := by simp [formB, isTup, kids, kid]
      show formB (.tuple [.str x, b, c, p.1]) = false
      rw [e]
      unfold formS
      cases x == Str.ofString "same" <;> cases x == Str.ofString "told" <;> cases x == Str.ofString "rule" <;> cases x == Str.ofString "under" <;> simp
    | _ => simp [formB, isTup, kids, kid]
end
end
section
theorem reg_law10 : True := by
  k_with_none
  k_with "go" => (repeat' ((fail_if_success (with_reducible show Exists _));(fail_if_success (with_reducible show _ ∧ Keeps _ _));(fail_if_success (with_reducible show wpAny _ _ (eval (PySem.Expr.ListComp _ _ _ _) _) _ _ _));(fail_if_success (with_reducible show wpAny _ _ (exec (Stmt.Assign _ (PySem.Expr.ListComp _ _ _ _) _) _) _ _ _));(fail_if_success (with_reducible show wpAny _ _ (exec (Stmt.While _ _ _ _) _) _ _ _));(fail_if_success (with_reducible show wpAny _ _ (exec (Stmt.For _ _ _ _ _) _) _ _ _));first | (k_unfold;(try dsimp only)) | walk1 | (dsimp only;walk1) | fail "no step"))
  k_with "reads" => (first | with_reducible assumption | exact Reads.keeps (Fr.keep (by k_asm)) (by with_reducible assumption) | (refine' readsNew1 ?rF_r1 ?rN_r1 ?rM_r1 ?rR_r1;(case rF_r1 => k_asm);(case rN_r1 => k_asm);(case rM_r1 => k_mem);(case rR_r1 => with_reducible assumption)))
  k_with "call builtin:len" => ((k_here;(with_reducible show wpAny _ _ (call _ [Value.ref _]) _ _ _);k_dflt (refine' lenLst ?N_r2 ?m_r2 ?z_r2 ?_;(case N_r2 => k_asm);(case m_r2 => k_mem);(case z_r2 => first | assumption | omega);k_whole);intro _ _))
  k_with "call builtin:len" => ((k_here;k_dflt (refine' lenTup ?R_r3 ?t_r3 ?z_r3 ?_;(case R_r3 => walk_at "reads");(case t_r3 => assumption);(case z_r3 => first | assumption | omega);k_whole);intro _ _))
  k_with "call builtin:list.pop" => ((k_here;(with_reducible show wpAny _ _ (call _ [Value.ref _]) _ _ _);k_dflt (refine' popLst ?F_r4 ?N_r4 ?U_r4 ?z_r4 ?_;(case F_r4 => k_asm);(case N_r4 => k_asm);(case U_r4 => k_upd);(case z_r4 => first | assumption | omega);k_whole);intro qh' qF' qN'))
  k_with "call builtin:isinstance" => ((k_here;(with_reducible show wpAny _ _ (call _ [_, Value.type "tuple"]) _ _ _);k_dflt (refine' isiTup ?R_r5 ?_ ?_;(case R_r5 => walk_at "reads"));all_goals (intro qhI;(try intro qtkI);(try dsimp only))))
  k_with "call builtin:isinstance" => ((k_here;(with_reducible show wpAny _ _ (call _ [_, Value.type "str"]) _ _ _);k_dflt (refine' isiStr ?R_r6 ?_ ?_;(case R_r6 => walk_at "reads"));all_goals (first | (intro qxI qtI qeI qhI qlI;(try subst qeI);(try dsimp only)) | (intro qhI qtkI;(try dsimp only)))))
  k_with "subscriptTail" => ((k_here;(with_reducible show wpAny _ _ (subscriptTail _ _ _ (Value.int 0 _)) _ _ _);k_dflt (refine' itemB0 ?F_r7 ?R_r7 ?t_r7 ?k_r7 ?_ ?s_r7;(case F_r7 => k_asm);(case R_r7 => with_reducible assumption);(case t_r7 => assumption);(case k_r7 => omega);(case s_r7 => intro _;with_unfolding_all rfl);k_whole);intro qvI qrI;(try dsimp only at qrI);(try (obtain ⟨qtI, qeI⟩ := reads_strE qrI (by with_reducible assumption);subst qeI));(try dsimp only)))
  k_with "subscriptTail" => ((k_here;(with_reducible show wpAny _ _ (subscriptTail _ _ _ (Value.int 1 _)) _ _ _);k_dflt (refine' itemB1 ?F_r8 ?R_r8 ?t_r8 ?k_r8 ?_ ?s_r8;(case F_r8 => k_asm);(case R_r8 => with_reducible assumption);(case t_r8 => assumption);(case k_r8 => omega);(case s_r8 => intro _;with_unfolding_all rfl);k_whole);intro qvI qrI;(try dsimp only at qrI);(try (obtain ⟨qtI, qeI⟩ := reads_strE qrI (by with_reducible assumption);subst qeI));(try dsimp only)))
  k_with "subscriptTail" => ((k_here;(with_reducible show wpAny _ _ (subscriptTail _ _ _ (Value.int 2 _)) _ _ _);k_dflt (refine' itemB2 ?F_r9 ?R_r9 ?t_r9 ?k_r9 ?_ ?s_r9;(case F_r9 => k_asm);(case R_r9 => with_reducible assumption);(case t_r9 => assumption);(case k_r9 => omega);(case s_r9 => intro _;with_unfolding_all rfl);k_whole);intro qvI qrI;(try dsimp only at qrI);(try (obtain ⟨qtI, qeI⟩ := reads_strE qrI (by with_reducible assumption);subst qeI));(try dsimp only)))
  k_with "subscriptTail" => ((k_here;(with_reducible show wpAny _ _ (subscriptTail _ (PySem.Expr.Slice none (some _) none _) (Value.str _ _) _) _ _ _);(k_dflt (refine strCut1 (s := ⟨_, _, _, _, _⟩) (by assumption) (by assumption) ?hsz_r10 ?_));(case hsz_r10 => (rw [sizeLine_eq];omega));intro qh' qt' qk' qF' qN' qkK;(try dsimp only at qkK);(try dsimp only)))
  k_with "subscriptTail Name Slice str ref" => ((k_here;(with_reducible show wpAny _ _ (subscriptTail _ (PySem.Expr.Slice none (some _) none _) (Value.str _ _) _) _ _ _);(k_dflt (refine strCut1 (s := ⟨_, _, _, _, _⟩) (by assumption) (by assumption) ?hsz_r11 ?_));(case hsz_r11 => (rw [sizeLine_eq];omega));intro qh' qt' qk' qF' qN' qkK;(try dsimp only at qkK);(try dsimp only)))
  k_with "subscriptTail" => ((k_here;(with_reducible show wpAny _ _ (subscriptTail _ (PySem.Expr.Slice (some _) none none _) _ (Value.ref _)) _ _ _);(k_dflt (refine' sliceTup1 (s := ⟨_, _, _, _, _⟩) ?F_r12 ?N_r12 ?R_r12 ?t_r12 ?k_r12 ?z_r12 ?_ ?hs_r12 ?hg_r12;(case F_r12 => k_asm);(case N_r12 => k_asm);(case R_r12 => with_reducible assumption);(case t_r12 => assumption);(case k_r12 => omega);(case z_r12 => omega);(case hs_r12 => intro _;with_unfolding_all rfl);(case hg_r12 => intro _ _;with_unfolding_all rfl)));intro qD' qh' qvs' qF' qN' qR' ql1 qe1;(try k_lt ql1);(try dsimp only)))
  k_with "call builtin:list.extend" => ((k_here;(k_dflt (refine' extLst ?F_r13 ?N_r13 ?b_r13 ?U_r13 ?z_r13 ?_;(case F_r13 => k_asm);(case N_r13 => k_asm);(case b_r13 => k_mem);(case U_r13 => intro qk9;k_upd);(case z_r13 => omega)));intro qh' qk' qF' qN';(try dsimp only)))
  k_with "good" => (first | exact good_shaped (by assumption) (by omega) | exact good_shaped (good_filter (by assumption)) (by omega))
  k_with "units" => (first | exact addLt (by assumption) (by decide) | exact addLt1 (c := 3) (by assumption) (by decide) | exact addLt1 (c := 1) (by assumption) (by decide) | exact addLt2 (c := 3) (d := 1) (by assumption) (by decide) | exact addLt2 (c := 3) (d := 3) (by assumption) (by decide) | omega | ((try simp only [Around.deeper_units, units_in1]);omega))
  k_with "compareOp NotEq ref ref" => ((k_here;(with_reducible show wpAny _ _ (compareOp CmpOp.NotEq (Value.ref _) (Value.ref _)) _ _ _);k_dflt (refine' neNil ?F_r16 ?N_r16 ?E_r16 ?RA_r16 ?D_r16 ?a_r16 ?u_r16 ?_;(case F_r16 => k_asm);(case N_r16 => k_asm);(case E_r16 => k_mem);(case D_r16 => k_mem);(case RA_r16 => with_reducible assumption);(case a_r16 => walk_at "good");(case u_r16 => walk_at "units");k_whole);(try dsimp only)))
  k_with "compareOp Eq ref ref" => ((k_here;(with_reducible show wpAny _ _ (compareOp CmpOp.Eq (Value.ref _) (Value.ref _)) _ _ _);k_dflt (refine' eqNil ?F_r17 ?N_r17 ?E_r17 ?RA_r17 ?D_r17 ?a_r17 ?u_r17 ?_;(case F_r17 => k_asm);(case N_r17 => k_asm);(case E_r17 => k_mem);(case D_r17 => k_mem);(case RA_r17 => with_reducible assumption);(case a_r17 => walk_at "good");(case u_r17 => walk_at "units");k_whole);(try dsimp only)))
  k_with "call type:set" => ((k_here;(with_reducible show wpAny _ _ (call (Value.type "set") [Value.ref _]) _ _ _);k_dflt (refine' setStrs ?hh_r18 ?F_r18 ?N_r18 ?D_r18 ?S_r18 ?z_r18 ?_;(case hh_r18 => assumption);(case F_r18 => k_asm);(case N_r18 => k_asm);(case D_r18 => k_mem);(case S_r18 => with_reducible assumption);(case z_r18 => with_reducible assumption));intro qD' qh' qo' qtk' qF' qN' ql1 qsO;(try k_lt ql1);(try dsimp only)))
  k_with "call builtin:sorted" => ((k_here;(with_reducible show wpAny _ _ (call (Value.builtin "sorted") [Value.ref _]) _ _ _);k_dflt (refine' sortedSet ?hh_r19 ?F_r19 ?N_r19 ?D_r19 ?S_r19 ?z_r19 ?_;(case hh_r19 => assumption);(case F_r19 => k_asm);(case N_r19 => k_asm);(case D_r19 => k_mem);(case S_r19 => with_reducible assumption);(case z_r19 => with_reducible assumption));intro qD' qh' qtk' qdr' qvs' qss' qk' qF' qN' ql1 qsA qpA qsS;(try k_lt ql1);(try dsimp only)))
  k_with "compareOp Eq ref ref" => ((k_here;(with_reducible show wpAny _ _ (compareOp CmpOp.Eq (Value.ref _) (Value.ref _)) _ _ _);k_dflt (refine' eqNames ?F_r20 ?N_r20 ?D_r20 ?E_r20 ?SD_r20 ?SE_r20 ?p_r20 ?s_r20 ?ok_r20 ?z_r20 ?u_r20 ?_;(case F_r20 => k_asm);(case N_r20 => k_asm);(case D_r20 => k_mem);(case E_r20 => k_mem);(case SD_r20 => with_reducible assumption);(case SE_r20 => with_reducible assumption);(case p_r20 => with_reducible assumption);(case s_r20 => with_reducible assumption);(case ok_r20 => with_reducible assumption);(case z_r20 => with_reducible assumption);(case u_r20 => walk_at "units");k_whole);(try dsimp only)))
  k_with "room" => (first | exact addLt (by assumption) (by decide) | exact addLt1 (c := 1) (by assumption) (by decide) | exact addLt2 (c := 1) (d := 1) (by assumption) (by decide) | omega | ((try simp only [depth_deeper, depth_in1]);omega))
  k_with "call ref" => ((k_here;k_dflt (refine' plain_ok ?R_r22 ?z_r22 _ _ _ _ _ _ _ _ _ _ ?h1_r22 ?h2_r22 ?h3_r22 ?h4_r22 ?h5_r22 ?h6_r22 ?B_r22 ?F_r22 ?X_r22 ?T_r22 ?_;(case R_r22 => walk_at "reads");(case z_r22 => first | assumption | omega | (simp only [sz, szAll];omega));(case h1_r22 => assumption);(case h2_r22 => first | exact Around.frames_deeper (Below.stack (by assumption)) | assumption);(case h3_r22 => exact rfl);(case h4_r22 => exact rfl);(case h5_r22 => walk_at "room");(case h6_r22 => walk_at "units");(case B_r22 => assumption);(case F_r22 => assumption);(case X_r22 => assumption);(case T_r22 => assumption));intro qv9 qh' qtk' qkK;(try dsimp only at qkK);(rename News _ _ _ _ => qN9);(have qN' := Keep.news qkK qN9);(rename Fr _ _ _ _ => qF9);(have qF9k := fun (_ : True) => Keep.fr qkK qF9);intro qhF' qhP';(have qF' := qF9k True.intro);clear qF9k;(try subst qhP');(try dsimp only)))
  k_with "call ref" => ((k_here;k_dflt (refine' places_ok ?R_r23 ?g_r23 ?sm_r23 _ _ _ _ _ _ _ _ _ _ ?h1_r23 ?h2_r23 ?h3_r23 ?h4_r23 ?h5_r23 ?h6_r23 ?B_r23 ?F_r23 ?X_r23 ?T_r23 ?_;(case R_r23 => walk_at "reads");(case g_r23 => first | assumption | exact good_kids (by assumption) _ (kid_mem (by omega)));(case sm_r23 => assumption);(case h1_r23 => assumption);(case h2_r23 => first | exact Around.frames_deeper (Below.stack (by assumption)) | assumption);(case h3_r23 => exact rfl);(case h4_r23 => exact rfl);(case h5_r23 => walk_at "room");(case h6_r23 => walk_at "units");(case B_r23 => assumption);(case F_r23 => assumption);(case X_r23 => assumption);(case T_r23 => assumption));intro qv9 qh' qtk' qdr' qkK;(try dsimp only at qkK);(rename News _ _ _ _ => qN9);(have qN' := Keep.news qkK qN9);(rename Fr _ _ _ _ => qF9);(have qF9k := fun (_ : True) => Keep.fr qkK qF9);intro qhF' qhP';(have qF' := qF9k True.intro);clear qF9k;(try subst qhP');(try dsimp only)))
  k_with "unpackItems ref" => ((k_here;k_dflt (refine' unpackTup ?F_r24 ?N_r24 ?hh_r24 ?ht_r24 ?hn_r24 ?_;(case F_r24 => k_asm);(case N_r24 => k_asm);(case hh_r24 => assumption);(case ht_r24 => kun_tup);(case hn_r24 => exact rfl);k_whole);intro qh' qF' qN' qkK;(try dsimp only)))
  k_with "go2" => (repeat' ((fail_if_success (with_reducible show Exists _));(fail_if_success (with_reducible show _ ∧ Keeps _ _));(fail_if_success (with_reducible show wpAny _ _ (eval (PySem.Expr.ListComp _ _ _ _) _) _ _ _));(fail_if_success (with_reducible show wpAny _ _ (exec (Stmt.Assign _ (PySem.Expr.ListComp _ _ _ _) _) _) _ _ _));(fail_if_success (with_reducible show wpAny _ _ (exec (Stmt.For _ _ _ _ _) _) _ _ _));first | (k_unfold;(try dsimp only)) | walk1 | (dsimp only;walk1) | fail "no step"))
  k_with "call ref" => ((k_here;k_dflt (refine' form_ok ?R_r26 ?g_r26 ?z_r26 ?sm_r26 _ _ _ _ _ _ _ _ _ _ ?h1_r26 ?h2_r26 ?h3_r26 ?h4_r26 ?h5_r26 ?h6_r26 ?B_r26 ?F_r26 ?X_r26 ?T_r26 ?_;(case R_r26 => walk_at "reads");(case g_r26 => assumption);(case z_r26 => assumption);(case sm_r26 => assumption);(case h1_r26 => assumption);(case h2_r26 => first | exact Around.frames_deeper (Below.stack (by assumption)) | assumption);(case h3_r26 => exact rfl);(case h4_r26 => exact rfl);(case h5_r26 => walk_at "room");(case h6_r26 => walk_at "units");(case B_r26 => assumption);(case F_r26 => assumption);(case X_r26 => assumption);(case T_r26 => assumption));intro qv9 qh' qtk' qdr' qkK;(try dsimp only at qkK);(rename News _ _ _ _ => qN9);(have qN' := Keep.news qkK qN9);(rename Fr _ _ _ _ => qF9);(have qF9k := fun (_ : True) => Keep.fr qkK qF9);intro qhF' qhP';(have qF' := qF9k True.intro);clear qF9k;(try subst qhP');(try dsimp only)))
  k_with "call ref" => ((k_here;k_dflt (refine' parts_ok ?R_r27 ?t_r27 ?l_r27 ?o_r27 _ _ _ _ _ _ _ _ _ _ ?h1_r27 ?h2_r27 ?h3_r27 ?h4_r27 ?h5_r27 ?h6_r27 ?B_r27 ?F_r27 ?X_r27 ?T_r27 ?_;(case R_r27 => walk_at "reads");(case t_r27 => assumption);(case l_r27 => assumption);(case o_r27 => assumption);(case h1_r27 => assumption);(case h2_r27 => first | exact Around.frames_deeper (Below.stack (by assumption)) | assumption);(case h3_r27 => exact rfl);(case h4_r27 => exact rfl);(case h5_r27 => walk_at "room");(case h6_r27 => walk_at "units");(case B_r27 => assumption);(case F_r27 => assumption);(case X_r27 => assumption);(case T_r27 => assumption));intro qv9 qh' qtk' qkK;(try dsimp only at qkK);(rename News _ _ _ _ => qN9);(have qN' := Keep.news qkK qN9);(rename Fr _ _ _ _ => qF9);(have qF9k := fun (_ : True) => Keep.fr qkK qF9);intro qhF' qhP';(have qF' := qF9k True.intro);clear qF9k;(obtain ⟨qT9, qe9, qo9, qn9⟩ := qhP';subst qe9);(try dsimp only at qn9);(have qN'' := newsAdd qF9 qN' qo9 qn9);(have qne9 := newsNe qN9 qn9);clear qN';(simp only [List.forall_mem_cons, List.not_mem_nil, false_implies, implies_true, and_true] at qne9);(try dsimp only)))
  k_with "assign Tuple" => ((k_here;k_dflt (refine' asgPair ?F_r28 ?N_r28 ?hh_r28 ?ht_r28 ?_;(case F_r28 => k_asm);(case N_r28 => k_asm);(case hh_r28 => assumption);(case ht_r28 => kun_tup);k_whole);intro qh' qF' qN' qkK;(try dsimp only)))
  k_with "go3" => (repeat' ((fail_if_success (with_reducible show Exists _));(fail_if_success (with_reducible show _ ∧ Keeps _ _));(fail_if_success (with_reducible show wpAny _ _ (exec (Stmt.Assign _ (PySem.Expr.ListComp _ _ _ _) _) _) _ _ _));(fail_if_success (with_reducible show wpAny _ _ (exec (Stmt.For _ _ _ _ _) _) _ _ _));first | (k_unfold;(try dsimp only)) | walk1 | (dsimp only;walk1) | fail "no step"))
  k_with "call type:enumerate" => ((k_here;(with_reducible show wpAny _ _ (call (Value.type "enumerate") [Value.ref _]) _ _ _);k_dflt (refine' enumT ?F_r30 ?N_r30 ?m_r30 ?_;(case F_r30 => k_asm);(case N_r30 => k_asm);(case m_r30 => k_mem));intro qe qh' qF' qN' qkE;(try dsimp only)))
  k_with "go4" => (repeat' ((fail_if_success (with_reducible show Exists _));(fail_if_success (with_reducible show _ ∧ Keeps _ _));(fail_if_success (with_reducible show wpAny _ _ (eval (PySem.Expr.ListComp _ _ _ _) _) _ _ _));(fail_if_success (with_reducible show wpAny _ _ (exec (Stmt.Assign _ (PySem.Expr.ListComp _ _ _ _) _) _) _ _ _));first | (k_unfold;(try dsimp only)) | walk1 | (dsimp only;walk1) | fail "no step"))
  k_with "call ref" => ((k_here;k_dflt (refine' order_ok ?R_r32 ?g_r32 ?z_r32 ?sm_r32 ?hc_r32 _ _ _ _ _ _ _ _ _ _ ?h1_r32 ?h2_r32 ?h3_r32 ?h4_r32 ?h5_r32 ?h6_r32 ?B_r32 ?F_r32 ?X_r32 ?T_r32 ?_;(case R_r32 => walk_at "reads");(case g_r32 => assumption);(case z_r32 => assumption);(case sm_r32 => assumption);(case hc_r32 => assumption);(case h1_r32 => assumption);(case h2_r32 => first | exact Around.frames_deeper (Below.stack (by assumption)) | assumption);(case h3_r32 => exact rfl);(case h4_r32 => exact rfl);(case h5_r32 => walk_at "room");(case h6_r32 => walk_at "units");(case B_r32 => assumption);(case F_r32 => assumption);(case X_r32 => assumption);(case T_r32 => assumption));intro qv9 qh' qtk' qdr' qkK;(try dsimp only at qkK);(rename News _ _ _ _ => qN9);(have qN' := Keep.news qkK qN9);(rename Fr _ _ _ _ => qF9);(have qF9k := fun (_ : True) => Keep.fr qkK qF9);intro qhF' qhP';(have qF' := qF9k True.intro);clear qF9k;(obtain ⟨qD9, qT9, qP9, qk9, qe9, qoD9, qoT9, qoP9, qnD9, qnT9, qnP9⟩ := qhP';subst qe9);(try dsimp only at qnD9 qnT9 qnP9);(have qNp := newsAdd qF9 qN' qoP9 qnP9);(have qNt := newsAdd qF9 qNp qoT9 qnT9);(have qNd := newsAdd qF9 qNt qoD9 qnD9);(have qneP := newsNe qN9 qnP9);(have qneT := newsNe qN9 qnT9);(have qneD := newsNe qN9 qnD9);(have qnePT := ne3 qoD9 qoT9 qoP9);clear qN' qNp qNt;(simp only [List.forall_mem_cons, List.not_mem_nil, false_implies, implies_true, and_true] at qneP qneT qneD);(try dsimp only)))
  k_with "call ref" => ((k_here;k_dflt (refine' want_raises ?R_r33 ?g_r33 ?z_r33 ?sm_r33 ?form_r33 ?P_r33 _ _ _ _ _ _ _ _ _ _ ?h1_r33 ?h2_r33 ?h3_r33 ?h4_r33 ?h5_r33 ?h6_r33 ?B_r33 ?F_r33 ?X_r33 ?T_r33 ?KD_r33 ?_;(case R_r33 => walk_at "reads");(case g_r33 => assumption);(case z_r33 => assumption);(case sm_r33 => assumption);(case form_r33 => assumption);(case P_r33 => exact ⟨_, News.get (by k_asm) (by k_mem), rfl, _, rfl⟩);(case h1_r33 => assumption);(case h2_r33 => first | exact Around.frames_deeper (Below.stack (by assumption)) | assumption);(case h3_r33 => exact rfl);(case h4_r33 => exact rfl);(case h5_r33 => walk_at "room");(case h6_r33 => walk_at "units");(case B_r33 => assumption);(case F_r33 => assumption);(case X_r33 => assumption);(case T_r33 => assumption);(case KD_r33 => exact ktsKeep (by assumption) (Fr.keep (by k_asm))));intro qe9 qh' qtk' qdr' qth9;(try dsimp only at qth9);(try dsimp only)))
  k_with "k_ne" => ((refine neN ?_;(try dsimp only);first | assumption | exact Ne.symm (by assumption) | exact Nat.ne_of_lt (by assumption) | exact Nat.ne_of_gt (by assumption) | exact (And.left (by assumption)) | exact (Ne.symm (And.left (by assumption))) | exact (Nat.ne_of_lt (And.left (by assumption))) | exact (Nat.ne_of_gt (And.left (by assumption))) | exact (And.left (And.right (by assumption))) | exact (Ne.symm (And.left (And.right (by assumption)))) | exact (Nat.ne_of_lt (And.left (And.right (by assumption)))) | exact (Nat.ne_of_gt (And.left (And.right (by assumption)))) | exact (And.right (by assumption)) | exact (Ne.symm (And.right (by assumption))) | exact (Nat.ne_of_lt (And.right (by assumption))) | exact (Nat.ne_of_gt (And.right (by assumption))) | exact (And.left (And.right (And.right (by assumption)))) | exact (Ne.symm (And.left (And.right (And.right (by assumption))))) | exact (Nat.ne_of_lt (And.left (And.right (And.right (by assumption))))) | exact (Nat.ne_of_gt (And.left (And.right (And.right (by assumption))))) | exact (And.right (And.right (by assumption))) | exact (Ne.symm (And.right (And.right (by assumption)))) | exact (Nat.ne_of_lt (And.right (And.right (by assumption)))) | exact (Nat.ne_of_gt (And.right (And.right (by assumption)))) | exact (And.left (And.right (And.right (And.right (by assumption))))) | exact (Ne.symm (And.left (And.right (And.right (And.right (by assumption)))))) | exact (Nat.ne_of_lt (And.left (And.right (And.right (And.right (by assumption)))))) | exact (Nat.ne_of_gt (And.left (And.right (And.right (And.right (by assumption)))))) | exact (And.right (And.right (And.right (by assumption)))) | exact (Ne.symm (And.right (And.right (And.right (by assumption))))) | exact (Nat.ne_of_lt (And.right (And.right (And.right (by assumption))))) | exact (Nat.ne_of_gt (And.right (And.right (And.right (by assumption))))) | exact (And.left (And.right (And.right (And.right (And.right (by assumption)))))) | exact (Ne.symm (And.left (And.right (And.right (And.right (And.right (by assumption))))))) | exact (Nat.ne_of_lt (And.left (And.right (And.right (And.right (And.right (by assumption))))))) | exact (Nat.ne_of_gt (And.left (And.right (And.right (And.right (And.right (by assumption))))))) | exact (And.right (And.right (And.right (And.right (by assumption))))) | exact (Ne.symm (And.right (And.right (And.right (And.right (by assumption)))))) | exact (Nat.ne_of_lt (And.right (And.right (And.right (And.right (by assumption)))))) | exact (Nat.ne_of_gt (And.right (And.right (And.right (And.right (by assumption)))))) | exact (And.left (And.right (And.right (And.right (And.right (And.right (by assumption))))))) | exact (Ne.symm (And.left (And.right (And.right (And.right (And.right (And.right (by assumption)))))))) | exact (Nat.ne_of_lt (And.left (And.right (And.right (And.right (And.right (And.right (by assumption)))))))) | exact (Nat.ne_of_gt (And.left (And.right (And.right (And.right (And.right (And.right (by assumption)))))))) | exact (And.right (And.right (And.right (And.right (And.right (by assumption)))))) | exact (Ne.symm (And.right (And.right (And.right (And.right (And.right (by assumption))))))) | exact (Nat.ne_of_lt (And.right (And.right (And.right (And.right (And.right (by assumption))))))) | exact (Nat.ne_of_gt (And.right (And.right (And.right (And.right (And.right (by assumption))))))) | exact (And.left (And.right (And.right (And.right (And.right (And.right (And.right (by assumption)))))))) | exact (Ne.symm (And.left (And.right (And.right (And.right (And.right (And.right (And.right (by assumption))))))))) | exact (Nat.ne_of_lt (And.left (And.right (And.right (And.right (And.right (And.right (And.right (by assumption))))))))) | exact (Nat.ne_of_gt (And.left (And.right (And.right (And.right (And.right (And.right (And.right (by assumption))))))))) | exact (And.right (And.right (And.right (And.right (And.right (And.right (by assumption))))))) | exact (Ne.symm (And.right (And.right (And.right (And.right (And.right (And.right (by assumption)))))))) | exact (Nat.ne_of_lt (And.right (And.right (And.right (And.right (And.right (And.right (by assumption)))))))) | exact (Nat.ne_of_gt (And.right (And.right (And.right (And.right (And.right (And.right (by assumption)))))))) | omega))
  k_with "k_ne" => ((refine neN ?_;(try dsimp only);first | assumption | exact Ne.symm (by assumption) | exact Nat.ne_of_lt (by assumption) | exact Ne.symm (Nat.ne_of_lt (by assumption))))
  k_with "CompRest" => ((with_unfolding_all first | (refine LCg.CompRest.succ ?_;intro qv' qI' qoI' qC' qoC' qD' qm' qh' qtk' qE' qhv' qhC' qhx' qF' qN' qoff' qne';(first | lcg_open qhv' | (obtain ⟨qt9', qhv9'⟩ := qhv';subst qhv9'));(try simp only [LCg.Off3, and_true] at qoff');(repeat (rename _ ∧ _ => qq9;obtain ⟨_, _⟩ := qq9))) | refine LCg.CompRest.zero ?_))
  k_with "CompSrc" => ((k_here;k_dflt (first | (refine LCg.CompSrc.ledger (by rfl) (by k_asm) (by k_asm) (by k_mem) (by first | size_fits | exact Nat.le_of_ble_eq_true rfl) ?_;intro qg';lcg_lit) | (refine LCg.CompSrc.base (by rfl) (by k_asm) (by k_asm) (by assumption) (by first | size_fits | exact Nat.le_of_ble_eq_true rfl) ?_;intro qg';lcg_lit) | (refine LCg.CompSrc.range (by rfl) (by k_asm) (by k_asm) (by assumption) (by first | decide | rfl) (by first | rfl | decide) (by first | size_fits | exact Nat.le_of_ble_eq_true rfl) ?_;intro qg';lcg_lit))))
  k_with "go6" => (repeat' ((fail_if_success (with_reducible show Exists _));(fail_if_success (with_reducible show wpAny _ _ (execs (Stmt.Assign _ (PySem.Expr.Tuple _ _ _) _ :: _) _) _ _ _));(fail_if_success (with_reducible show wpAny _ _ (exec (Stmt.For _ _ _ _ _) _) _ _ _));first | (k_unfold;(try dsimp only)) | walk1 | (dsimp only;walk1) | fail "no step"))
  k_with "call ref" => ((k_here;(with_reducible show wpAny _ _ (call (Value.ref 212) _) _ _ _);k_dflt (refine' pick_ok ?hh_r39 ?hA_r39 ?hf_r39 ?hke_r39 ?hd_r39 ?hu_r39 ?B_r39 ?F_r39 ?X_r39 ?T_r39 ?N_r39 ?U_r39 ?hR_r39 ?hne_r39 ?hI_r39 ?hlen_r39 ?hk0_r39 ?hk_r39 ?hD_r39 ?lo_r39 ?hm1_r39 ?hm2_r39 ?_;(case hh_r39 => exact rfl);(case hA_r39 => exact Around.frames_deeper (Below.stack (by assumption)));(case hf_r39 => exact rfl);(case hke_r39 => exact rfl);(case hd_r39 => (simp only [depth_deeper, depth_caller, recursionLimit];decide));(case hu_r39 => (simp only [Around.deeper_units, units_caller, cLine];decide));(case B_r39 => assumption);(case F_r39 => k_asm);(case X_r39 => assumption);(case T_r39 => assumption);(case N_r39 => k_asm);(case U_r39 => intro qo9;k_upd);(case hD_r39 => assumption);(case hR_r39 => k_mem);(case hne_r39 => k_ne);(case hI_r39 => assumption);(case hlen_r39 => (rw [List.length_map];exact List.length_take_le _ _));(case hk0_r39 => decide);(case hk_r39 => decide);(case lo_r39 => assumption);(case hm1_r39 => decide);(case hm2_r39 => decide));intro qi' qt' qo' qt3' qh' qtk' qi0' qi1' qd' qF' qN';(try dsimp only)))
  k_with "subscriptTail" => ((k_here;(with_reducible show wpAny _ _ (subscriptTail _ _ (Value.ref 134) (Value.int _ _)) _ _ _);(k_dflt (refine' item_kinds ?F_r40 ?X_r40 ?h0_r40 ?h1_r40 ?_ ?hs_r40;(case F_r40 => k_asm);(case X_r40 => assumption);(case h0_r40 => assumption);(case h1_r40 => assumption);(case hs_r40 => intro _;with_unfolding_all rfl)));intro qx' qt' qhx8';(try dsimp only)))
  k_with "subscriptTail" => ((k_here;(with_reducible show wpAny _ _ (subscriptTail _ _ (Value.ref 205) (Value.int _ _)) _ _ _);(k_dflt (refine' item_things ?F_r41 ?X_r41 ?h0_r41 ?h1_r41 ?_ ?hs_r41;(case F_r41 => k_asm);(case X_r41 => assumption);(case h0_r41 => assumption);(case h1_r41 => assumption);(case hs_r41 => intro _;with_unfolding_all rfl)));intro qa' qp' qhp8' qr8';(try dsimp only)))
  trivial
theorem newsPick {g h : Heap} {L : Addr} {a0 a1 a2 a3 a4 a5 a6 a7 a8 : Addr × Obj} (N : News g L h [a0, a1, a2, a3, a4, a5, a6, a7, a8]) : News g L h [a0, a7, a5, a8] := fun p hp => N p (by
  rcases List.mem_cons.mp hp with rfl | hp
  · k_mem
  · rcases List.mem_cons.mp hp with rfl | hp
    · k_mem
    · rcases List.mem_cons.mp hp with rfl | hp
      · k_mem
      · rw [List.mem_singleton.mp hp]; k_mem)
theorem mkPair {h : Heap} {T : Addr} {x : Str} {t t' : Tok} (hT : h.get? T = some { cls := .type "tuple", data := .seq #[.str x t, .str (Str.ofString "to") t'] }) : Reads h (.ref T) (pairD (.str x, Str.ofString "to")) [] :=
  .tuple hT rfl rfl (rcons (.str _ _) (rcons (.str _ _) .nil))
theorem okKind {x : Str} (h : x ∈ kindsS) : (PyData.str x, Str.ofString "to") ∈ okPairs := List.mem_append_left _ (List.mem_map.mpr ⟨x, h, rfl⟩)
theorem okThing {p : PyData × Str} (h : p ∈ thingsD) : p ∈ okPairs := List.mem_append_right _ h
theorem all5 {a b c d e : PyData × Str} (ha : a ∈ okPairs) (hb : b ∈ okPairs) (hc : c ∈ okPairs) (hd : d ∈ okPairs) (he : e ∈ okPairs) : ∀ p ∈ [a, b, c, d, e], p ∈ okPairs := fun p hp => by
  simp only [List.mem_cons, List.not_mem_nil, or_false] at hp
  rcases hp with rfl | rfl | rfl | rfl | rfl <;> assumption
theorem noTs {D : Addr} : ∀ p ∈ ([] : List (Addr × Obj)), @Ne Nat p.1 D := fun p hp => nomatch hp
namespace law_body_n
noncomputable def Wk (w : World) (mean : ExcName → Option Value) (mg : Str → Option Value) (mb : Str → Option Value) (s : Shared) (h₀ : Heap) (base : Heap) (L : Addr) (S0 : Addr) (f : Addr) (m : Str → Option Value) (Q : Flow → Shared → Prop) (E : Value → Shared → Prop) (ocl : Obj) (vals : List Value) (cells0 : List Int) (cd : Value) : Prop := ∀ (name : Str) (qual : Str) (params : Arguments) (body : List Stmt) (scope : Scope) (dV : Value) (kV : Value) (doc : Value) (pm : Value) (cdv : Value) (ct : Value) (oc : Value) (an : Option Addr) (od : Option Addr) (osl : Array (Option Value)) (hlk : (Mine.hd.heap_39 w.params).lookup 236 = some ⟨oc, od, .func (fnOf name qual params body scope dV kV doc pm an cdv ct), osl⟩) (B : Below callerA base [] h₀) (F : Fr h₀ L s.heap m) (X : (Mine.hd.heap_39 w.params).In h₀) (T : TopH mean mg mb h₀) (hm : m (Str.ofString "script") = some (.ref S0)) (hl : h₀.IsList S0 vals.toArray) (hI : IntsAre vals cells0) (hc : ¬ (63 : Int) < (cells0.length : Int)) (hcl : ocl.data = .cell none) (N : News h₀ L s.heap [(L + 1, ocl)]) (ret : ∀ h' tk dr m', Fr h₀ L h' m' → Q (.ret (.bool true)) { s with heap := h', toks := tk, drawn := dr }), wpAny (model PG w) (callerA.deeper (envOfC qual scope L f cd)) (execs body (envOfC qual scope L f cd)) Q E s
theorem inhab : Nonempty ((World) × (ExcName → Option Value) × (Str → Option Value) × (Str → Option Value) × (Shared) × (Heap) × (Heap) × (Addr) × (Addr) × (Addr) × (Str → Option Value) × (Flow → Shared → Prop) × (Value → Shared → Prop) × (Obj) × (List Value) × (List Int) × (Value)) := ⟨((aWorld 1), (fun _ => none), (fun _ => none), (fun _ => none), ({}), ({}), ({}), (0), (0), (0), (fun _ => none), (fun _ _ => True), (fun _ _ => True), (⟨.none, none, .freed, #[]⟩), ([]), ([]), (.none))⟩
noncomputable def cc : (World) × (ExcName → Option Value) × (Str → Option Value) × (Str → Option Value) × (Shared) × (Heap) × (Heap) × (Addr) × (Addr) × (Addr) × (Str → Option Value) × (Flow → Shared → Prop) × (Value → Shared → Prop) × (Obj) × (List Value) × (List Int) × (Value) := pickA inhab fun c => Wk c.1 c.2.1 c.2.2.1 c.2.2.2.1 c.2.2.2.2.1 c.2.2.2.2.2.1 c.2.2.2.2.2.2.1 c.2.2.2.2.2.2.2.1 c.2.2.2.2.2.2.2.2.1 c.2.2.2.2.2.2.2.2.2.1 c.2.2.2.2.2.2.2.2.2.2.1 c.2.2.2.2.2.2.2.2.2.2.2.1 c.2.2.2.2.2.2.2.2.2.2.2.2.1 c.2.2.2.2.2.2.2.2.2.2.2.2.2.1 c.2.2.2.2.2.2.2.2.2.2.2.2.2.2.1 c.2.2.2.2.2.2.2.2.2.2.2.2.2.2.2.1 c.2.2.2.2.2.2.2.2.2.2.2.2.2.2.2.2
@[irreducible] noncomputable def w : World := cc.1
@[irreducible] noncomputable def mean : ExcName → Option Value := cc.2.1
@[irreducible] noncomputable def mg : Str → Option Value := cc.2.2.1
@[irreducible] noncomputable def mb : Str → Option Value := cc.2.2.2.1
@[irreducible] noncomputable def s : Shared := cc.2.2.2.2.1
@[irreducible] noncomputable def h₀ : Heap := cc.2.2.2.2.2.1
@[irreducible] noncomputable def base : Heap := cc.2.2.2.2.2.2.1
@[irreducible] noncomputable def L : Addr := cc.2.2.2.2.2.2.2.1
@[irreducible] noncomputable def S0 : Addr := cc.2.2.2.2.2.2.2.2.1
@[irreducible] noncomputable def f : Addr := cc.2.2.2.2.2.2.2.2.2.1
@[irreducible] noncomputable def m : Str → Option Value := cc.2.2.2.2.2.2.2.2.2.2.1
@[irreducible] noncomputable def Q : Flow → Shared → Prop := cc.2.2.2.2.2.2.2.2.2.2.2.1
@[irreducible] noncomputable def E : Value → Shared → Prop := cc.2.2.2.2.2.2.2.2.2.2.2.2.1
@[irreducible] noncomputable def ocl : Obj := cc.2.2.2.2.2.2.2.2.2.2.2.2.2.1
@[irreducible] noncomputable def vals : List Value := cc.2.2.2.2.2.2.2.2.2.2.2.2.2.2.1
@[irreducible] noncomputable def cells0 : List Int := cc.2.2.2.2.2.2.2.2.2.2.2.2.2.2.2.1
@[irreducible] noncomputable def cd : Value := cc.2.2.2.2.2.2.2.2.2.2.2.2.2.2.2.2
theorem here : Wk w mean mg mb s h₀ base L S0 f m Q E ocl vals cells0 cd := by
  unfold Wk
  intro name qual params body scope dV kV doc pm cdv ct oc an od osl hlk B F X T hm hl hI hc hcl N ret
  (have hFill : ∀ P : Params, (Mine.hd.heap_39 P = Mine.hd.heap_39 P) ∧ PySem.Challenge.rw_rg0113_01 = PySem.Challenge.rw_rg0113_01 := (by k_fill; exact fillK); clear hFill)
  have hlk' : (Mine.hd.heap_39 w.params).lookup 236 = some _ := rfl
  cases hlk.symm.trans hlk'
  clear hlk hlk'
  have F := frPin F hm
  walk_at "go6"
  rename News _ _ _ _ => N9
  rename Fr _ _ _ _ => F9
  rename Obj.IsDictOf _ _ _ => d9
  have NP := newsPick N9
  (repeat (rename _ ∧ _ => q9; obtain ⟨_, _⟩ := q9))
  refine' law_tail (s := ⟨_, _, _, _, _⟩) (ps := [(.str _, Str.ofString "to"), (.str _, Str.ofString "to"), _, _, _]) (Ts := []) ?hlk ?hh ?hA ?hd ?hu ?B F9 ?X ?T NP ?hS ?hcl ?hneR ?hneC noTs ?hneS ?hI ?hlen d9 ?lo ?RA ?hps rfl ?hrow ?hext ?h156 ?hpap ?ret
  case hlk => k_is
  case hh => exact rfl
  case hA => exact Around.frames_deeper (Below.stack (by assumption))
  case hd => simp only [depth_deeper, depth_caller, recursionLimit]; decide
  case hu => simp only [Around.deeper_units, units_caller, cLine]; decide
  case B => assumption
  case X => assumption
  case T => assumption
  case hS => exact rfl
  case hcl => assumption
  case hneR => k_ne
  case hneC => k_ne
  case hneS => k_ne
  case hI => assumption
  case hlen => rw [List.length_map]; exact List.length_take_le _ _
  case lo => assumption
  case RA => exact rcons (mkPair (N9.get (by k_mem))) (rcons (mkPair (N9.get (by k_mem))) (rcons (Reads.keeps F9.keep (by assumption)) (rcons (Reads.keeps F9.keep (by assumption)) (rcons (Reads.keeps F9.keep (by assumption)) ReadsAll.nil))))
  case hps => exact all5 (okKind (by assumption)) (okKind (by assumption)) (okThing (by assumption)) (okThing (by assumption)) (okThing (by assumption))
  case hrow => exact plain_rows (all5 (okKind (by assumption)) (okKind (by assumption)) (okThing (by assumption)) (okThing (by assumption)) (okThing (by assumption))) rfl
  case hext => exact plain_ext (all5 (okKind (by assumption)) (okKind (by assumption)) (okThing (by assumption)) (okThing (by assumption)) (okThing (by assumption))) rfl
  case h156 => exact plain_156 rfl
  case hpap => exact plain_pap (all5 (okKind (by assumption)) (okKind (by assumption)) (okThing (by assumption)) (okThing (by assumption)) (okThing (by assumption)))
  case ret => exact fun h' tk dr m' F' => ret h' tk dr m' F'
theorem all : ∀ c : (World) × (ExcName → Option Value) × (Str → Option Value) × (Str → Option Value) × (Shared) × (Heap) × (Heap) × (Addr) × (Addr) × (Addr) × (Str → Option Value) × (Flow → Shared → Prop) × (Value → Shared → Prop) × (Obj) × (List Value) × (List Int) × (Value), Wk c.1 c.2.1 c.2.2.1 c.2.2.2.1 c.2.2.2.2.1 c.2.2.2.2.2.1 c.2.2.2.2.2.2.1 c.2.2.2.2.2.2.2.1 c.2.2.2.2.2.2.2.2.1 c.2.2.2.2.2.2.2.2.2.1 c.2.2.2.2.2.2.2.2.2.2.1 c.2.2.2.2.2.2.2.2.2.2.2.1 c.2.2.2.2.2.2.2.2.2.2.2.2.1 c.2.2.2.2.2.2.2.2.2.2.2.2.2.1 c.2.2.2.2.2.2.2.2.2.2.2.2.2.2.1 c.2.2.2.2.2.2.2.2.2.2.2.2.2.2.2.1 c.2.2.2.2.2.2.2.2.2.2.2.2.2.2.2.2 := pickA_all (h := inhab) (p := fun c => Wk c.1 c.2.1 c.2.2.1 c.2.2.2.1 c.2.2.2.2.1 c.2.2.2.2.2.1 c.2.2.2.2.2.2.1 c.2.2.2.2.2.2.2.1 c.2.2.2.2.2.2.2.2.1 c.2.2.2.2.2.2.2.2.2.1 c.2.2.2.2.2.2.2.2.2.2.1 c.2.2.2.2.2.2.2.2.2.2.2.1 c.2.2.2.2.2.2.2.2.2.2.2.2.1 c.2.2.2.2.2.2.2.2.2.2.2.2.2.1 c.2.2.2.2.2.2.2.2.2.2.2.2.2.2.1 c.2.2.2.2.2.2.2.2.2.2.2.2.2.2.2.1 c.2.2.2.2.2.2.2.2.2.2.2.2.2.2.2.2) (by with_unfolding_all exact @here)
end law_body_n
theorem law_body {w : World} {mean : ExcName → Option Value} {mg mb : Str → Option Value} {s : Shared} {h₀ base : Heap} {L S0 f : Addr} {m : Str → Option Value} {Q : Flow → Shared → Prop} {E : Value → Shared → Prop} {ocl : Obj} {vals : List Value} {cells0 : List Int} {cd : Value}
    {name qual : Str} {params : Arguments} {body : List Stmt} {scope : Scope} {dV kV doc pm cdv ct oc : Value} {an od : Option Addr} {osl : Array (Option Value)}
    (hlk : (Mine.hd.heap_39 w.params).lookup 236 = some ⟨oc, od, .func (fnOf name qual params body scope dV kV doc pm an cdv ct), osl⟩)
    (B : Below callerA base [] h₀) (F : Fr h₀ L s.heap m) (X : (Mine.hd.heap_39 w.params).In h₀) (T : TopH mean mg mb h₀)
    (hm : m (Str.ofString "script") = some (.ref S0)) (hl : h₀.IsList S0 vals.toArray) (hI : IntsAre vals cells0) (hc : ¬ (63 : Int) < (cells0.length : Int)) (hcl : ocl.data = .cell none) (N : News h₀ L s.heap [(L + 1, ocl)])
    (ret : ∀ h' tk dr m', Fr h₀ L h' m' → Q (.ret (.bool true)) { s with heap := h', toks := tk, drawn := dr }) :
    wpAny (model PG w) (callerA.deeper (envOfC qual scope L f cd)) (execs body (envOfC qual scope L f cd)) Q E s :=
  law_body_n.all (w, mean, mg, mb, s, h₀, base, L, S0, f, m, Q, E, ocl, vals, cells0, cd) name qual params body scope dV kV doc pm cdv ct oc an od osl hlk B F X T hm hl hI hc hcl N ret
theorem law_holds : PySem.Challenge.rw_rg0113_01.Holds := hd (by
  k_go0
  all_goals try k_fold
  rename Fr _ _ _ _ => F9
  rename News _ _ _ _ => N9
  refine' law_body (s := ⟨_, _, _, _, _⟩) ?hlk ?B F9 ?X ?T ?hm ?hl ?hI ?hc ?hcl N9 ?ret
  case hlk => k_is
  case B => assumption
  case X => assumption
  case T => assumption
  case hm => exact rfl
  case hl => assumption
  case hI => assumption
  case hc => assumption
  case hcl => assumption
  case ret =>
    intro h' tk dr m' F'
    k_steps
    all_goals (try k_data))
end
end Mine
theorem PySem.Challenge.cw_rg0113_01_holds : PySem.Challenge.rw_rg0113_01.Holds :=
  Mine.law_holds
