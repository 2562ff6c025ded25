import PyProof.Rows.All
import Wide.All
import OpenK.AllK
import Wide.FinOn
import Lean
import PySem.Challenge.RW_on0182_01
open PySem PySem.W PyProof.Rows PySem.Calls PySem.Spec
set_option Elab.async false
set_option maxRecDepth 100000
set_option maxHeartbeats 4000000
set_option linter.unusedVariables false
namespace Mine
local macro_rules | `(tactic| walk_at $s:str) => `(tactic| k_extra $s)
/-- the run of the top upon the library's trees of objects -/
noncomputable def topRunT (tb : String → Option Builtin) (p : Program) (w : World) (n₀ : Nat) (ann : Option Value) : Nat → SharedT → Thread → Option SharedT
  | 0, _, _ => none
  | n + 1, s, t => match through t with
    | true => some s
    | false => match PySem.W.Fast.tw6613529449190102663 n₀ ann t with
      | false => none
      | true => match PySem.W.Fast.tw10156331382660048174 (PySem.W.Fast.tw11892475500146522536 tb) p w s t with
        | some (s', t') => topRunT tb p w n₀ ann n s' t'
        | none => none
theorem topRun_of {tb : String → Option Builtin} {p : Program} {w : World} {n₀ : Nat} {ann : Option Value} : ∀ {n : Nat} {s s' : SharedT} {t : Thread}, topRunT tb p w n₀ ann n s t = some s' → topRun tb p w n₀ ann n s.abs t = some s'.abs
  | 0, _, _, _, h => by cases h
  | n + 1, s, s', t, h => by
    unfold topRunT at h
    rw [← PySem.W.Fast.te6613529449190102663, ← PySem.W.Fast.te10156331382660048174, ← PySem.W.Fast.te11892475500146522536] at h
    unfold topRun
    cases he : through t with
    | true => rw [he] at h; cases h; rfl
    | false =>
      rw [he] at h
      cases hk : stepOk n₀ ann t with
      | false => rw [hk] at h; cases h
      | true =>
        rw [hk] at h
        cases hs : stepT (denote tb) p w s t with
        | none => rw [hs] at h; cases h
        | some r => obtain ⟨s₂, t₂⟩ := r; rw [hs] at h; rw [stepT_spec hs]; exact topRun_of h
def treeOf : List Obj → Nat → BT → BT
  | [], _, t => t
  | o :: r, n, t => treeOf r (n + 1) (t.ins n o)
noncomputable def bootT (P : Params) (os : OsState) : SharedT := ⟨treeOf (boot_heap P).objs.toList 0 .nil, (boot_heap P).objs.size, (boot_heap P).life, Array.mk [], boot_drawn, boot_toks, os⟩
theorem boot_abs (P : Params) (os : OsState) : (bootT P os).abs = { heap := boot_heap P, gens := Array.mk [], drawn := boot_drawn, toks := boot_toks, os := os } := by kernel_rfl
theorem boot_size (P : Params) : ((boot_heap P).isNs mainGlobals && (Array.mk [] : Array GenState).size == 0, (boot_heap P).objs.size, (boot_heap P).nsMap mainGlobals "__annotations__") = (true, 11, some (.ref 6)) := by kernel_rfl
/-- what the head looks at behind the top -/
noncomputable def lookAt {α : Type} (q : Program) (loose mods : List Str) (Xt : Shared → Bool) (Yf : Shared → α) (p : Program) (N : Nat) (P : Params) (s : Shared) :=
  (Nat.ble 600 N && (staticsOk mods (boot_heap P) s.heap && namesBound p s.heap && gensDone s && laidKept (boot_heap P) s.heap), openSeen q loose mods Xt true s, Yf s)
theorem left_of {p q : Program} {loose : List Str} {Xt : Shared → Bool} {α : Type} {Yf : Shared → α} {Ya : World → α} {N : Nat} (he : opening p = plainProg p.main.scope.names) (hf : ∀ s, fenceModules? p s = some s)
    (left : ∀ w : World, (fun os => (topRunT PySem.W.Fast.tw14364793385576792824 p w 11 (some (.ref 6)) N (bootT w.params os) (topStub p)).map (fun S => lookAt q loose (importedModules p.main.body) Xt Yf p N w.params S.abs)) = fun _ => some (true, openGood q loose, Ya w)) : LeftO p q loose Xt Yf Ya N := fun w => by
  have look : ∀ os, ∃ S, topRunT PySem.W.Fast.tw14364793385576792824 p w 11 (some (.ref 6)) N (bootT w.params os) (topStub p) = some S ∧ Nat.ble 600 N = true ∧
      (staticsOk (importedModules p.main.body) (boot_heap w.params) S.abs.heap && namesBound p S.abs.heap && gensDone S.abs && laidKept (boot_heap w.params) S.abs.heap) = true ∧ openSeen q loose (importedModules p.main.body) Xt true S.abs = openGood q loose ∧ Yf S.abs = Ya w := fun os => by
    obtain ⟨S, hS, hl⟩ := Option.map_eq_some_iff.mp (congrFun (left w) os)
    unfold lookAt at hl
    have h1 := congrArg Prod.fst hl
    have h2 := congrArg (fun x => x.2.1) hl
    have h3 := congrArg (fun x => x.2.2) hl
    have h1' := Bool.and_eq_true_iff.mp h1
    exact ⟨S, hS, h1'.1, h1'.2, h2, h3⟩
  obtain ⟨_, _, hN, _⟩ := look {}
  obtain ⟨s, hs, hv⟩ := Option.map_eq_some_iff.mp (boot_open he hN hf w)
  obtain ⟨h, g, dr, tk, os⟩ := s
  simp only [Prod.mk.injEq] at hv
  obtain ⟨rfl, rfl, rfl, rfl⟩ := hv
  obtain ⟨S, hS, _, l1, l2, l3⟩ := look os
  obtain ⟨z1, z2, z3⟩ : _ ∧ _ ∧ _ := by simpa only [Prod.mk.injEq] using boot_size w.params
  have r := topRun_of hS
  rw [← PySem.W.Fast.te14364793385576792824] at r
  rw [boot_abs] at r
  have t : topFrom treeTable p w N ⟨boot_heap w.params, Array.mk [], boot_drawn, boot_toks, os⟩ = some S.abs := by
    unfold topFrom
    dsimp only
    rw [z1, z2, z3, r]
    show (match staticsOk (importedModules p.main.body) (boot_heap w.params) S.abs.heap && namesBound p S.abs.heap && gensDone S.abs && laidKept (boot_heap w.params) S.abs.heap with | true => some S.abs | false => none) = _
    rw [l1]
  unfold openEnds
  rw [hs]
  show (topFrom treeTable p w N _).map _ = _
  rw [t]
  exact congrArg some (Prod.ext l2 l3)
set_option linter.defProp false in
/-- the library's head lemma at this row -/
def libHead := @PySem.W.holds_open PySem.Challenge.rw_on0182_01.row
namespace PySem
set_option linter.defProp false in
/-- the library's head lemma for this row, its check of the top said as one equation upon the library's boot and trees: the head is then checked at once (the library's own second road), and the compiled file stays small -/
def W.holds_open {q : Program} {loose : List Str} {Xt : Shared → Bool} {XP : (Str → Option Value) → Heap → Prop} {α : Type} {Yf : Shared → α} {Ya : World → α} {YP : World → Heap → Prop} {d : DefRec} {kwd : List (Str × PySem.Expr)} {N : Nat}
    (left : ∀ w : World, (fun os => (topRunT PySem.W.Fast.tw14364793385576792824 PySem.Challenge.rw_on0182_01.row.prog w 11 (some (.ref 6)) N (bootT w.params os) (topStub PySem.Challenge.rw_on0182_01.row.prog)).map (fun S => lookAt q loose (importedModules PySem.Challenge.rw_on0182_01.row.prog.main.body) Xt Yf PySem.Challenge.rw_on0182_01.row.prog N w.params S.abs)) = fun _ => some (true, openGood q loose, Ya w)) :=
  @libHead q loose Xt XP α Yf Ya YP d kwd N (left_of (by kernel_rfl) (fun _ => by kernel_rfl) left)
end PySem
open_top hd for PySem.Challenge.rw_on0182_01
theorem reset : True := by
  w_top off
  trivial

set_option maxRecDepth 100000

abbrev Led := List (Addr × Obj)
structure Wd where
  w : World
  mean : ExcName → Option Value
  mg : Str → Option Value
  mb : Str → Option Value

abbrev ctxA (D U : Nat) (envs : List Env) : Around := { handled := none, depth := D, frames := some envs, guards := some [], units := U }

/-- the contract of a def: from a heap that keeps g beside the ledger n, the call ends with a value and a ledger that are P -/
def Does (e : Wd) (f : Addr) (D U : Nat) (vs : List Value) (n : Led) (P : Value → Led → Prop) : Prop :=
  ∀ (base g : Heap) (envs : List Env) (s : Shared) (R : Result → Shared → Prop),
    Below (ctxA D U envs) base envs g → (hd.heap_39 e.w.params).In g → Top hd.view_39 (looseW hd.view_39 [Str.ofString "_law_kinds"]) e.mean e.mg e.mb g →
    g.StaysIn s.heap → g.objs.size ≤ s.heap.objs.size → (∀ p ∈ n, s.heap.get? p.1 = some p.2 ∧ g.get? p.1 = none) →
    (∀ v h' tk' n', g.StaysIn h' → (∀ p ∈ n', h'.get? p.1 = some p.2 ∧ g.get? p.1 = none) → P v n' → R (.ok (.ret v)) { s with heap := h', toks := tk' }) →
    codeAny (model PySem.Challenge.rw_on0182_01.row.prog e.w) (ctxA D U envs) (.call (.ref f) ⟨vs, []⟩) R s

def Back (g : Heap) (L : Addr) (P : Value → Led → Prop) (s₀ : Shared) (v : Value) (s' : Shared) : Prop :=
  ∃ h' tk' m n', s' = { s₀ with heap := h', toks := tk' } ∧ Fr g L h' m ∧ News g L h' n' ∧ P v n'
theorem Back.intro {g : Heap} {L : Addr} {P : Value → Led → Prop} {s₀ : Shared} {v : Value} {h' : Heap} {tk' : Nat} {m : Str → Option Value} (n' : Led)
    (F : Fr g L h' m) (N : News g L h' n') (p : P v n') : Back g L P s₀ v { s₀ with heap := h', toks := tk' } := ⟨h', tk', m, n', rfl, F, N, p⟩

section
variable {e : Wd} {f : Addr} {D U : Nat} {vs : List Value} {n : Led} {P : Value → Led → Prop} {name qual : Str} {params : Arguments} {body : List Stmt} {scope : Scope} {dV kV doc pm cdv ct oc : Value} {an od : Option Addr} {osl : Array (Option Value)} {binds : List (Str × Value)}

theorem enter
    (ho : (hd.heap_39 e.w.params).lookup f = some ⟨oc, od, .func (fnOf name qual params body scope dV kV doc pm an cdv ct), osl⟩) (hcd : codeIn (hd.heap_39 e.w.params) cdv qual = true) (hroom : D < recursionLimit)
    (hbind : ∀ s, BindsTo s (fnOf name qual params body scope dV kV doc pm an cdv ct) ⟨vs, []⟩ binds) (hloc : ∀ y ∈ binds, scope.names.lookup y.1 = some .local)
    (h : ∀ base g envs (s : Shared) L h₁ tk₁, Below (ctxA D U envs) base envs g → (hd.heap_39 e.w.params).In g → Top hd.view_39 (looseW hd.view_39 [Str.ofString "_law_kinds"]) e.mean e.mg e.mb g →
      Fr g L h₁ (fun y => binds.reverse.lookup y) → News g L h₁ n → (∀ p ∈ n, p.1 < L) →
      wpAny (model PySem.Challenge.rw_on0182_01.row.prog e.w) ((ctxA D U envs).deeper (envOf qual scope L f cdv)) (execs body (envOf qual scope L f cdv))
        (fun fl s' => Back g L P s (match fl with | .ret v => v | _ => .none) s') (fun _ _ => False) { s with heap := h₁, toks := tk₁ })
    (hcell : ∀ x ∈ scope.names, x.2 ≠ .cell) (hco : scope.isCoroutine = false) (hgen : scope.isGenerator = false) (hk : scope.kind = .function) : Does e f D U vs n P := by
  intro base g envs s R B X T st hsz hn k
  have X' : (hd.heap_39 e.w.params).In s.heap := X.keeps st
  refine codeAny_call_def (fd := fnOf name qual params body scope dV kV doc pm an cdv ct) (body := body) (binds := binds) hroom (X' _ _ ho) rfl (T.nolimit.keeps st) (codeRec_of X' hcd) rfl (hbind s) hcell hloc (fun h₁ hns hk₁ => ?_) hco hgen hk
  refine wpAny_mono (h base g envs s s.heap.objs.size h₁ _ B X T ⟨hns, fun b o q => hk₁ b o (st b o q), hsz⟩ (fun p hp => ⟨hk₁ _ _ (hn p hp).1, Nat.ne_of_lt (Heap.lt_size (hn p hp).1), (hn p hp).2⟩) (fun p hp => Heap.lt_size (hn p hp).1)) ?_ (fun _ _ q => q.elim)
  rintro fl s' ⟨h', tk', m, n', rfl, F, N, p⟩
  exact k _ h' tk' n' F.keep (fun q hq => ⟨(N q hq).1, (N q hq).2.2⟩) p

theorem enterC
    (ho : (hd.heap_39 e.w.params).lookup f = some ⟨oc, od, .func (fnOf name qual params body scope dV kV doc pm an cdv ct), osl⟩) (hcd : codeIn (hd.heap_39 e.w.params) cdv qual = true) (hroom : D < recursionLimit)
    (hbind : ∀ s, BindsTo s (fnOf name qual params body scope dV kV doc pm an cdv ct) ⟨vs, []⟩ binds)
    (hkind : (binds.all fun y => scope.names.lookup y.1 == some .local || scope.names.lookup y.1 == some .cell) = true) (hnd : ((cellsFrom 0 scope.names []).map (·.1)).Nodup)
    (h : ∀ base g envs (s : Shared) L h₁ tk₁ cells, Below (ctxA D U envs) base envs g → (hd.heap_39 e.w.params).In g → Top hd.view_39 (looseW hd.view_39 [Str.ofString "_law_kinds"]) e.mean e.mg e.mb g →
      Fr g L h₁ (bindL (envOfC qual scope L f cdv).kindOf binds fun _ => none) → News g L h₁ (cells ++ n) →
      CellsAre (bindC (envOfC qual scope L f cdv).kindOf binds fun _ => none) (cellsFrom (L + 1) scope.names []) cells → (∀ p ∈ n, p.1 < L) →
      wpAny (model PySem.Challenge.rw_on0182_01.row.prog e.w) ((ctxA D U envs).deeper (envOfC qual scope L f cdv)) (execs body (envOfC qual scope L f cdv))
        (fun fl s' => Back g L P s (match fl with | .ret v => v | _ => .none) s') (fun _ _ => False) { s with heap := h₁, toks := tk₁ })
    (hco : scope.isCoroutine = false) (hgen : scope.isGenerator = false) (hk : scope.kind = .function) : Does e f D U vs n P := by
  intro base g envs s R B X T st hsz hn k
  have X' : (hd.heap_39 e.w.params).In s.heap := X.keeps st
  refine codeAny_call_function hroom (X' _ _ ho) rfl hco hgen rfl (codeRec_of X' hcd) (hbind s _ _ _ _ ?_)
  refine wpAny_newFunctionEnv_cells hk (kindsX hkind _) fun env' he s' x => ?_
  subst he
  refine ⟨(T.nolimit.keeps st).keeps x.toInCall.keep, codeAny_func ?_⟩
  obtain ⟨h₁, tk, rfl, _⟩ := x.done
  have hk₁ := x.toInCall.keep
  obtain ⟨cells, NC, Y⟩ := Cl.news (h₀ := s.heap) (Nat.le_refl _) fun n c hm => ⟨x.cell n c (lookup_of_mem_nodup (cellsFrom_names scope.names 0 (s.heap.objs.size + 1) [] [] rfl ▸ hnd) hm), x.above n c hm⟩
  refine wpAny_mono (h base g envs s s.heap.objs.size h₁ tk cells B X T ⟨x.toInCall.ns, fun b o q => hk₁ b o (st b o q), hsz⟩ (fun p hp => ?_) Y (fun p hp => Heap.lt_size (hn p hp).1)) ?_ (fun _ _ q => q.elim)
  · rcases List.mem_append.mp hp with hp | hp
    · refine ⟨(NC p hp).1, (NC p hp).2.1, ?_⟩
      cases q : g.get? p.1 with
      | none => rfl
      | some o => have := st _ _ q; rw [(NC p hp).2.2] at this; cases this
    · exact ⟨hk₁ _ _ (hn p hp).1, Nat.ne_of_lt (Heap.lt_size (hn p hp).1), (hn p hp).2⟩
  · rintro fl s' ⟨h', tk', m, n', rfl, F, N, p⟩
    exact k _ h' tk' n' F.keep (fun q hq => ⟨(N q hq).1, (N q hq).2.2⟩) p
end

theorem in_le {A A' : Around} {Γ : PySem.Ctx} (h : Γ.Below A) (hh : A'.handled = A.handled) (hf : A'.frames = A.frames) (hg : A'.guards = A.guards) (hd : A.depth ≤ A'.depth) (hu : A.units ≤ A'.units) : Γ.Below A' :=
  ⟨by rw [hh]; exact h.1, Nat.le_trans h.2.1 hd, fun l hl => h.2.2.1 l (by rw [← hf]; exact hl), fun g' hg' => h.2.2.2.1 g' (by rw [← hg]; exact hg'), Nat.le_trans h.2.2.2.2 hu⟩

section
variable {e : Wd} {f : Addr} {D U : Nat} {vs : List Value} {n : Led} {P : Value → Led → Prop}
  {A A₀ : Around} {base h₀ : Heap} {outer : List Env} {L : Addr} {m : Str → Option Value} {env : Env} {s : Shared} {Q E : Value → Shared → Prop} {news : Led}

/-- use of a contract at a call: rest is what stays of the ledger -/
theorem use (dz : Does e f D U vs n P) (rest : Led) (B : Below A₀ base outer h₀) (F : Fr h₀ L s.heap m) (X : (hd.heap_39 e.w.params).In h₀)
    (T : Top hd.view_39 (looseW hd.view_39 [Str.ofString "_law_kinds"]) e.mean e.mg e.mb h₀) (N : News h₀ L s.heap news)
    (hA : A.frames = some (env :: outer)) (hh : A.handled = none) (hg : A.guards = some []) (hf : env.frame = some L) (hke : env.scope.kind = .function)
    (hD : A.depth ≤ D) (hU : A.units ≤ U)
    (hn : ∀ p ∈ n, p ∈ news) (hr : ∀ p ∈ rest, p ∈ news) (hap : ∀ p ∈ rest, ∀ q ∈ n, p.1 ≠ q.1)
    (k : ∀ v h' tk' n', Fr h₀ L h' m → News h₀ L h' (n' ++ rest) → (∀ p ∈ n', ∀ q ∈ rest, q.1 ≠ p.1) → P v n' → Q v { s with heap := h', toks := tk' }) :
    wpAny (model PySem.Challenge.rw_on0182_01.row.prog e.w) A (call (.ref f) vs) Q E s := by
  refine wpAny_call ?_
  have Nn : News h₀ L s.heap n := fun p hp => N p (hn p hp)
  have B₁ := pushX B F hf hke
  have nL : L ∉ n.map (·.1) := fun q => by
    obtain ⟨p, hp, e⟩ := List.mem_map.mp q
    exact (Nn p hp).2.1 e
  have nm : ∀ b o, h₀.get? b = some o → b ∉ n.map (·.1) := fun b o e q => by
    obtain ⟨p, hp, rfl⟩ := List.mem_map.mp q
    rw [(Nn p hp).2.2] at e; cases e
  have st : h₀.StaysIn (hideAll s.heap (n.map (·.1))) := fun b o e => hideAll_get _ (F.keep b o e) (nm b o e)
  obtain ⟨oL, es, ep, hL, hLd, hLk, hLf⟩ := F.ns
  have hLg := hideAll_get (n.map (·.1)) hL nL
  have B₂ : Below (ctxA D U (env :: outer)) base (env :: outer) (hideAll s.heap (n.map (·.1))) := by
    refine ⟨rfl, fun b o e => st b o (B.stays b o e), funFrames_hideAll B₁.frames fun env' he b hb hf' => ?_⟩
    cases he with
    | head => exact nL ((Option.some.inj (hf.symm.trans hf') : L = b) ▸ hb)
    | tail _ he =>
      obtain ⟨L₁, o₁, hf₁, ho₁⟩ := funFrames_in B.frames env' he
      rw [hf₁] at hf'
      exact nm L₁ o₁ ho₁ ((Option.some.inj hf' : L₁ = b) ▸ hb)
  have key := dz base (hideAll s.heap (n.map (·.1))) (env :: outer) s (fun r s' => match r with | .ok (.ret v) => Q v s' | .ok _ => False | .error e => E e s') B₂ (X.keeps st) (T.keeps st)
    (fun b o q => of_hideAll _ q) (Nat.le_of_eq (hideAll_size _ _)) (fun p hp => ⟨(Nn p hp).1, hideAll_none _ (List.mem_map_of_mem hp)⟩) ?_
  · intro Γ p hc hΓ
    exact key Γ p hc (in_le hΓ hh.symm hA.symm hg.symm hD hU)
  · intro v h' tk' n' st' hn' p
    have hrest : ∀ q ∈ rest, (hideAll s.heap (n.map (·.1))).get? q.1 = some q.2 := fun q hq => hideAll_get _ (N q (hr q hq)).1 fun hm => by
      obtain ⟨x, hx, e⟩ := List.mem_map.mp hm
      exact hap q hq x hx e.symm
    refine k v h' tk' n' ⟨⟨oL, es, ep, st' L oL hLg, hLd, hLk, hLf⟩, fun b o e => st' b o (st b o e), F.above⟩ (fun q hq => ?_) (fun x hx q hq e => ?_) p
    · rcases List.mem_append.mp hq with hq | hq
      · refine ⟨(hn' q hq).1, fun e => ?_, ?_⟩
        · have := (hn' q hq).2; rw [e, hLg] at this; cases this
        · cases z : h₀.get? q.1 with
          | none => rfl
          | some o => have := (hn' q hq).2; rw [st _ _ z] at this; cases this
      · exact ⟨st' _ _ (hrest q hq), (N q (hr q hq)).2⟩
    · have := (hn' x hx).2
      rw [← e, hrest q hq] at this; cases this
end
section
variable {e : Wd} {f : Addr} {D U : Nat} {vs : List Value} {n : Led}
  {A A₀ : Around} {base h₀ : Heap} {outer : List Env} {L : Addr} {m : Str → Option Value} {env : Env} {s : Shared} {Q E : Value → Shared → Prop} {news : Led}

/-- a call that only reads the ledger n, and may leave new objects -/
theorem use0 {P : Value → Led → Prop} (dz : Does e f D U vs n (fun v n' => ∃ n'', n' = n'' ++ n ∧ P v n'')) (B : Below A₀ base outer h₀) (F : Fr h₀ L s.heap m) (X : (hd.heap_39 e.w.params).In h₀)
    (T : Top hd.view_39 (looseW hd.view_39 [Str.ofString "_law_kinds"]) e.mean e.mg e.mb h₀) (N : News h₀ L s.heap news)
    (hA : A.frames = some (env :: outer)) (hh : A.handled = none) (hg : A.guards = some []) (hf : env.frame = some L) (hke : env.scope.kind = .function)
    (hD : A.depth ≤ D) (hU : A.units ≤ U) (hn : ∀ p ∈ n, p ∈ news)
    (k : ∀ v h' tk' n', Fr h₀ L h' m → News h₀ L h' (n' ++ news) → (∀ p ∈ n', ∀ q ∈ news, q.1 ∉ n.map (·.1) → q.1 ≠ p.1) → P v n' → Q v { s with heap := h', toks := tk' }) :
    wpAny (model PySem.Challenge.rw_on0182_01.row.prog e.w) A (call (.ref f) vs) Q E s := by
  refine use dz (news.filter fun p => !(n.map (·.1)).contains p.1) B F X T N hA hh hg hf hke hD hU hn (fun p hp => (List.mem_filter.mp hp).1) (fun p hp q hq e => ?_) ?_
  · have := (List.mem_filter.mp hp).2
    simp only [Bool.not_eq_true', List.contains_eq_mem, decide_eq_false_iff_not] at this
    exact this (e ▸ List.mem_map_of_mem hq)
  · rintro v h' tk' n' F' N' ap ⟨n'', rfl, p⟩
    refine k v h' tk' n'' F' (fun q hq => ?_) (fun x hx q hq hne => ap x (List.mem_append_left _ hx) q (List.mem_filter.mpr ⟨hq, by simpa using hne⟩)) p
    rcases List.mem_append.mp hq with hq | hq
    · exact N' q (List.mem_append_left _ (List.mem_append_left _ hq))
    · by_cases hc : (n.map (·.1)).contains q.1 = true
      · simp only [List.contains_eq_mem, decide_eq_true_eq] at hc
        obtain ⟨x, hx, ex⟩ := List.mem_map.mp hc
        have h1 := (N q hq).1
        have h2 := (N x (hn x hx)).1
        rw [ex] at h2
        have h3 := N' x (List.mem_append_left _ (List.mem_append_right _ hx))
        have : x = q := Prod.ext ex (Option.some.inj (h2.symm.trans h1))
        exact this ▸ h3
      · exact N' q (List.mem_append_right _ (List.mem_filter.mpr ⟨hq, by simpa using hc⟩))

/-- a call that turns the one object d, reads the ledger n, and leaves nothing new -/
theorem use1 {d : Addr} {o : Obj} {gg : Obj → Led} {P : Value → Obj → Prop} (dz : Does e f D U vs ((d, o) :: n) (fun v n' => ∃ o', n' = (d, o') :: n ∧ P v o')) (UU : UpdF d o news gg) (B : Below A₀ base outer h₀) (F : Fr h₀ L s.heap m) (X : (hd.heap_39 e.w.params).In h₀)
    (T : Top hd.view_39 (looseW hd.view_39 [Str.ofString "_law_kinds"]) e.mean e.mg e.mb h₀) (N : News h₀ L s.heap news)
    (hA : A.frames = some (env :: outer)) (hh : A.handled = none) (hg : A.guards = some []) (hf : env.frame = some L) (hke : env.scope.kind = .function)
    (hD : A.depth ≤ D) (hU : A.units ≤ U) (hn : ∀ p ∈ n, p ∈ news)
    (k : ∀ v h' tk' o', Fr h₀ L h' m → News h₀ L h' (gg o') → P v o' → Q v { s with heap := h', toks := tk' }) :
    wpAny (model PySem.Challenge.rw_on0182_01.row.prog e.w) A (call (.ref f) vs) Q E s := by
  obtain ⟨pre, post, rfl, hgg, h1, h2⟩ := UU.split
  refine use dz ((pre ++ post).filter fun p => !(n.map (·.1)).contains p.1) B F X T N hA hh hg hf hke hD hU ?_ (fun p hp => ?_) (fun p hp q hq e => ?_) ?_
  · intro p hp
    rcases List.mem_cons.mp hp with rfl | hp
    · exact List.mem_append_right _ (.head _)
    · exact hn p hp
  · rcases List.mem_append.mp (List.mem_filter.mp hp).1 with hp | hp
    · exact List.mem_append_left _ hp
    · exact List.mem_append_right _ (.tail _ hp)
  · have hx := (List.mem_filter.mp hp).2
    simp only [Bool.not_eq_true', List.contains_eq_mem, decide_eq_false_iff_not] at hx
    rcases List.mem_cons.mp hq with rfl | hq
    · rcases List.mem_append.mp (List.mem_filter.mp hp).1 with hp | hp
      · exact h1 p hp e
      · exact h2 p hp e
    · exact hx (e ▸ List.mem_map_of_mem hq)
  · rintro v h' tk' n' F' N' ap ⟨o', rfl, p⟩
    refine k v h' tk' o' F' (fun q hq => ?_) p
    rw [hgg] at hq
    have hq' : q = (d, o') ∨ q ∈ pre ++ post := by
      rcases List.mem_append.mp hq with hq | hq
      · exact .inr (List.mem_append_left _ hq)
      · rcases List.mem_cons.mp hq with rfl | hq
        · exact .inl rfl
        · exact .inr (List.mem_append_right _ hq)
    rcases hq' with rfl | hq'
    · exact N' _ (List.mem_append_left _ (.head _))
    · by_cases hc : (n.map (·.1)).contains q.1 = true
      · simp only [List.contains_eq_mem, decide_eq_true_eq] at hc
        obtain ⟨x, hx, ex⟩ := List.mem_map.mp hc
        have hqn : q ∈ pre ++ (d, o) :: post := by
          rcases List.mem_append.mp hq' with hq | hq
          · exact List.mem_append_left _ hq
          · exact List.mem_append_right _ (.tail _ hq)
        have h1 := (N q hqn).1
        have h2 := (N x (hn x hx)).1
        rw [ex] at h2
        have h3 := N' x (List.mem_append_left _ (.tail _ hx))
        have : x = q := Prod.ext ex (Option.some.inj (h2.symm.trans h1))
        exact this ▸ h3
      · exact N' q (List.mem_append_right _ (List.mem_filter.mpr ⟨hq', by simpa using hc⟩))
end

theorem words02_1 : True := by
  k_with "MINE nil" => exact fun _ hp => nomatch hp
  k_with "MINE lst" => exact News.isList (by k_asm) (by k_mem)
  k_with "MINE fit" => first | assumption | omega | (simp only [List.size_toArray, List.length_map, List.length_append, List.length_cons, List.length_nil] at *; omega)
  k_with "call builtin:len" => (k_here; (with_reducible show wpAny _ _ (call (Value.builtin "len") [Value.ref _]) _ _ _); k_dflt (refine' PyProof.Rows.len_list ?k1 ?k2 ?_; (case k1 => k_extra "MINE lst"); (case k2 => k_extra "MINE fit"); k_whole); (try simp only [List.size_toArray]))
  trivial


/-- the source of draws -/
def Src (o : Obj) : Prop := ∃ a b ta tb ep, o = W.listOf #[.int a ta, .int b tb] ep ∧ 0 ≤ a ∧ 0 ≤ b ∧ b < 2147483647

theorem fm7 (x : Int) : 0 ≤ x.fmod 2147483647 ∧ x.fmod 2147483647 < 2147483647 := ⟨Int.fmod_nonneg_of_pos x (by decide), Int.fmod_lt_of_pos x (by decide)⟩
theorem mul7 (z x y : Int) : IntMulOk ([z, x.fmod 2147483647].getD (Int.toNat 1) 0) y :=
  PySem.IntMulOk.of_left (PySem.intBits_le_64 (by show -(2 ^ 64) < x.fmod 2147483647; have := fm7 x; omega) (by show x.fmod 2147483647 < 2 ^ 64; have := fm7 x; omega))
theorem words02_2 : True := by
  k_with "binaryOp Mult int int" => with_reducible refine PyProof.Rows.mul_int ?_ (mul7 _ _ _)
  trivial


theorem take_does (e : Wd) (src : Addr) (o : Obj) (top : Int) (tt : Tok) (hs : Src o) (ht : 0 < top ∧ top ≤ 1000) :
    Does e 179 390 450 [.ref src, .int top tt] [(src, o)]
      (fun v n' => ∃ o', n' = (src, o') :: [] ∧ Src o' ∧ ∃ r tr, v = .int r tr ∧ 0 ≤ r ∧ r < top) := by
  obtain ⟨a, b, ta, tb, ep, rfl, ha, hb, hb'⟩ := hs
  k_dflt (refine' enter (binds := [(Str.ofString "source", .ref src), (Str.ofString "top", .int top tt)]) ?k6 ?k7 ?k8 ?k9 ?kB ?_ ?c5 ?c2 ?c3 ?c4; (case k6 => k_is); (case k7 => k_is); (case k8 => decide); (case k9 => intro s; exact BindsTo.of_eq rfl); (case kB => exact locs rfl); (case c5 => decide); (case c2 => exact rfl); (case c3 => exact rfl); (case c4 => exact rfl); k_whole; intro base g envs s0 L' h' tk' B' X' T' F' N' l1; (try k_lt l1); (try dsimp only [List.reverse, List.reverseAux] at F'); (try dsimp only); (try k_fold))
  k_steps
  all_goals (first | (dsimp only; refine' Back.intro _ ?Fq1 ?Nq1 ?_; (case Fq1 => k_asm); (case Nq1 => k_asm)) | (refine' Back.intro _ ?Fq1 ?Nq1 ?_; (case Fq1 => k_asm); (case Nq1 => k_asm)))
  · refine ⟨_, rfl, ⟨_, _, _, _, _, rfl, ?_, hb, hb'⟩, _, _, rfl, Int.fmod_nonneg_of_pos _ ht.1, Int.fmod_lt_of_pos _ ht.1⟩
    exact Int.fdiv_nonneg ha (by omega)
  · refine ⟨_, rfl, ⟨_, _, _, _, _, rfl, ?_, ?_⟩, _, _, rfl, Int.fmod_nonneg_of_pos _ ht.1, Int.fmod_lt_of_pos _ ht.1⟩
    · exact ha
    · exact fm7 _
theorem words02_3 : True := by
  k_with "call ref" => (k_here; (with_reducible show wpAny _ _ (call (Value.ref 179) _) _ _ _); k_dflt (refine' use1 (take_does _ _ _ _ _ ?hs ?ht) ?U ?B ?F ?X ?T ?N ?hA ?hh ?hg ?hf ?hke ?hD ?hU ?hn ?_; (case B => k_asm); (case F => k_asm); (case X => k_asm); (case T => k_asm); (case N => k_asm); (case hA => exact rfl); (case hh => exact rfl); (case hg => exact rfl); (case hf => exact rfl); (case hke => exact rfl); (case hD => exact Nat.le_of_ble_eq_true rfl); (case hU => exact Nat.le_of_ble_eq_true rfl); (case U => k_updF); (case hs => k_asm); (case ht => (first | assumption | decide | omega)); (case hn => k_extra "MINE nil"); k_whole); intro v9 h9 tk9 o9 F9 N9 p9; obtain ⟨hs9, r9, t9, e9, h09, h19⟩ := p9; subst e9; (try dsimp only at N9); (try k_sweep))
  trivial


theorem item_mem {prog : Program} {w : World} {A : Around} {E : Value → Shared → Prop} {s : Shared} {value slice : PySem.Expr} {a : Addr} {l : List Value} {k : Int} {u : Tok} {Q : Value → Shared → Prop} (hl : s.heap.IsList a l.toArray)
    (h0 : 0 ≤ k) (hk : k < l.length) (hsz : l.length ≤ 1000) (h : ∀ x, x ∈ l → Q x s)
    (hs : subscripted slice false (.ref a) (.int k u) = operate [.ref a, .int k u] (getItem (.ref a) (.int k u)) := by with_unfolding_all rfl) (hg : ∀ r, letTemporaryGo value (.ref a) r = pure () := by intro _; with_unfolding_all rfl) :
    wpAny (model prog w) A (subscriptTail value slice (.ref a) (.int k u)) Q E s := by
  have hb : k.toNat < l.length := by omega
  exact PyProof.Rows.item_listL hl h0 (by omega) (List.getElem?_eq_getElem hb) (h _ (List.getElem_mem hb)) hs hg
theorem one_does (e : Wd) (src th : Nat) (o : Obj) (vs : List Value) (ep : Nat) (hne : src ≠ th) (hs : Src o) (hl : 0 < vs.length ∧ vs.length ≤ 1000) :
    Does e 186 380 400 [.ref src, .ref th] [(src, o), (th, W.listOf vs.toArray ep)]
      (fun v n' => ∃ o', n' = (src, o') :: [(th, W.listOf vs.toArray ep)] ∧ Src o' ∧ v ∈ vs) := by
  k_dflt (refine' enter (binds := [(Str.ofString "source", .ref src), (Str.ofString "things", .ref th)]) ?k6 ?k7 ?k8 ?k9 ?kB ?_ ?c5 ?c2 ?c3 ?c4; (case k6 => k_is); (case k7 => k_is); (case k8 => decide); (case k9 => intro s; exact BindsTo.of_eq rfl); (case kB => exact locs rfl); (case c5 => decide); (case c2 => exact rfl); (case c3 => exact rfl); (case c4 => exact rfl); k_whole; intro base g envs s0 L' h' tk' B' X' T' F' N' l1; (try k_lt l1); (try dsimp only [List.reverse, List.reverseAux] at F'); (try dsimp only); (try k_fold))
  k_steps
  refine item_mem (News.isList (by k_asm) (by k_mem)) (by omega) (by omega) hl.2 (fun x hx => ?_)
  k_steps
  (first | (dsimp only; refine' Back.intro _ ?Fq2 ?Nq2 ?_; (case Fq2 => k_asm); (case Nq2 => k_asm)) | (refine' Back.intro _ ?Fq2 ?Nq2 ?_; (case Fq2 => k_asm); (case Nq2 => k_asm)))
  exact ⟨_, rfl, by assumption, hx⟩

/-- which signs below 128 begin a name; which stand in one -/
def smallC (c : Nat) : Bool := decide (97 ≤ c) && decide (c ≤ 122)
def startC (c : Nat) : Bool := smallC c || ((decide (65 ≤ c) && decide (c ≤ 90)) || (c == 95 || c == 58))
def charC (c : Nat) : Bool := startC c || ((decide (48 ≤ c) && decide (c ≤ 57)) || (c == 45 || c == 46))
abbrev sg (c : Nat) : Str := Str.mk #[c]
theorem lt1 (c d : Nat) : ([c] : List Nat) < [d] ↔ c < d := by
  rw [List.cons_lt_cons_iff]; simp
theorem sg_eq (c d : Nat) : (sg c == sg d) = (c == d) := by
  by_cases h : c = d
  · subst h; simp
  · have : sg c ≠ sg d := fun e => h (by simpa using congrArg (fun s => s.cps) e)
    rw [beq_eq_false_iff_ne.mpr this, beq_eq_false_iff_ne.mpr h]
theorem lit_a : Str.ofString "a" = sg 97 := by decide
theorem lit_z : Str.ofString "z" = sg 122 := by decide
theorem lit_A : Str.ofString "A" = sg 65 := by decide
theorem lit_Z : Str.ofString "Z" = sg 90 := by decide
theorem lit_0 : Str.ofString "0" = sg 48 := by decide
theorem lit_9 : Str.ofString "9" = sg 57 := by decide
theorem lit_us : Str.ofString "_" = sg 95 := by decide
theorem lit_co : Str.ofString ":" = sg 58 := by decide
theorem lit_mi : Str.ofString "-" = sg 45 := by decide
theorem lit_do : Str.ofString "." = sg 46 := by decide
theorem sgl (c : Nat) : (sg c).cps.toList = [c] := rfl

theorem words03_4 : True := by
  k_with "MINE cases" => try simp only [lit_a, lit_z, lit_A, lit_Z, lit_0, lit_9, lit_us, lit_co, lit_mi, lit_do, sg_eq, sgl, lt1] at *
  trivial


theorem small_does (e : Wd) (c : Nat) (t : Tok) :
    Does e 52 400 500 [.str (sg c) t] [] (fun v n' => ∃ n'', n' = n'' ++ [] ∧ n'' = [] ∧ v = .bool (smallC c)) := by
  k_dflt (refine' enter (binds := [(Str.ofString "sign", .str (sg c) t)]) ?k6 ?k7 ?k8 ?k9 ?kB ?_ ?c5 ?c2 ?c3 ?c4; (case k6 => k_is); (case k7 => k_is); (case k8 => decide); (case k9 => intro s; exact BindsTo.of_eq rfl); (case kB => exact locs rfl); (case c5 => decide); (case c2 => exact rfl); (case c3 => exact rfl); (case c4 => exact rfl); k_whole; intro base g envs s0 L' h' tk' B' X' T' F' N' l1; (try k_lt l1); (try dsimp only [List.reverse, List.reverseAux] at F'); (try dsimp only); (try k_fold))
  k_steps
  all_goals (first | (dsimp only; refine' Back.intro _ ?Fq3 ?Nq3 ?_; (case Fq3 => k_asm); (case Nq3 => k_asm)) | (refine' Back.intro _ ?Fq3 ?Nq3 ?_; (case Fq3 => k_asm); (case Nq3 => k_asm)))
  all_goals refine ⟨[], rfl, rfl, ?_⟩
  all_goals k_extra "MINE cases"
  all_goals (simp only [smallC]; congr 1; rw [Bool.eq_iff_iff]; simp; omega)
theorem words03_5 : True := by
  k_with "call ref" => (k_here; (with_reducible show wpAny _ _ (call (Value.ref 52) _) _ _ _); k_dflt (refine' use0 (small_does _ _ _) ?B ?F ?X ?T ?N ?hA ?hh ?hg ?hf ?hke ?hD ?hU ?hn ?_; (case B => k_asm); (case F => k_asm); (case X => k_asm); (case T => k_asm); (case N => k_asm); (case hA => exact rfl); (case hh => exact rfl); (case hg => exact rfl); (case hf => exact rfl); (case hke => exact rfl); (case hD => exact Nat.le_of_ble_eq_true rfl); (case hU => exact Nat.le_of_ble_eq_true rfl); (case hn => k_extra "MINE nil"); k_whole); intro v9 h9 tk9 n9 F9 N9 ap9 p9; obtain ⟨hn9, e9⟩ := p9; subst hn9; subst e9; clear ap9; (try simp only [List.nil_append] at N9); (try k_sweep))
  trivial


theorem start_does (e : Wd) (c : Nat) (t : Tok) (hc : c < 128) :
    Does e 59 390 450 [.str (sg c) t] [] (fun v n' => ∃ n'', n' = n'' ++ [] ∧ n'' = [] ∧ v = .bool (startC c)) := by
  k_dflt (refine' enter (binds := [(Str.ofString "sign", .str (sg c) t)]) ?k6 ?k7 ?k8 ?k9 ?kB ?_ ?c5 ?c2 ?c3 ?c4; (case k6 => k_is); (case k7 => k_is); (case k8 => decide); (case k9 => intro s; exact BindsTo.of_eq rfl); (case kB => exact locs rfl); (case c5 => decide); (case c2 => exact rfl); (case c3 => exact rfl); (case c4 => exact rfl); k_whole; intro base g envs s0 L' h' tk' B' X' T' F' N' l1; (try k_lt l1); (try dsimp only [List.reverse, List.reverseAux] at F'); (try dsimp only); (try k_fold))
  k_steps
  all_goals (first | (dsimp only; refine' Back.intro _ ?Fq4 ?Nq4 ?_; (case Fq4 => k_asm); (case Nq4 => k_asm)) | (refine' Back.intro _ ?Fq4 ?Nq4 ?_; (case Fq4 => k_asm); (case Nq4 => k_asm)))
  all_goals refine ⟨[], rfl, rfl, ?_⟩
  all_goals k_extra "MINE cases"
  all_goals (simp only [startC]; congr 1; rw [Bool.eq_iff_iff]; simp_all <;> omega)
theorem words03_6 : True := by
  k_with "call ref" => (k_here; (with_reducible show wpAny _ _ (call (Value.ref 59) _) _ _ _); k_dflt (refine' use0 (start_does _ _ _ ?hc) ?B ?F ?X ?T ?N ?hA ?hh ?hg ?hf ?hke ?hD ?hU ?hn ?_; (case B => k_asm); (case F => k_asm); (case X => k_asm); (case T => k_asm); (case N => k_asm); (case hA => exact rfl); (case hh => exact rfl); (case hg => exact rfl); (case hf => exact rfl); (case hke => exact rfl); (case hD => exact Nat.le_of_ble_eq_true rfl); (case hU => exact Nat.le_of_ble_eq_true rfl); (case hc => omega); (case hn => k_extra "MINE nil"); k_whole); intro v9 h9 tk9 n9 F9 N9 ap9 p9; obtain ⟨hn9, e9⟩ := p9; subst hn9; subst e9; clear ap9; (try simp only [List.nil_append] at N9); (try k_sweep))
  trivial


theorem char_does (e : Wd) (c : Nat) (t : Tok) (hc : c < 128) :
    Does e 66 380 400 [.str (sg c) t] [] (fun v n' => ∃ n'', n' = n'' ++ [] ∧ n'' = [] ∧ v = .bool (charC c)) := by
  k_dflt (refine' enter (binds := [(Str.ofString "sign", .str (sg c) t)]) ?k6 ?k7 ?k8 ?k9 ?kB ?_ ?c5 ?c2 ?c3 ?c4; (case k6 => k_is); (case k7 => k_is); (case k8 => decide); (case k9 => intro s; exact BindsTo.of_eq rfl); (case kB => exact locs rfl); (case c5 => decide); (case c2 => exact rfl); (case c3 => exact rfl); (case c4 => exact rfl); k_whole; intro base g envs s0 L' h' tk' B' X' T' F' N' l1; (try k_lt l1); (try dsimp only [List.reverse, List.reverseAux] at F'); (try dsimp only); (try k_fold))
  k_steps
  all_goals (first | (dsimp only; refine' Back.intro _ ?Fq5 ?Nq5 ?_; (case Fq5 => k_asm); (case Nq5 => k_asm)) | (refine' Back.intro _ ?Fq5 ?Nq5 ?_; (case Fq5 => k_asm); (case Nq5 => k_asm)))
  all_goals refine ⟨[], rfl, rfl, ?_⟩
  all_goals k_extra "MINE cases"
  all_goals (simp only [charC]; congr 1; rw [Bool.eq_iff_iff]; simp_all <;> omega)
theorem words03_7 : True := by
  k_with "call ref" => (k_here; (with_reducible show wpAny _ _ (call (Value.ref 66) _) _ _ _); k_dflt (refine' use0 (char_does _ _ _ ?hc) ?B ?F ?X ?T ?N ?hA ?hh ?hg ?hf ?hke ?hD ?hU ?hn ?_; (case B => k_asm); (case F => k_asm); (case X => k_asm); (case T => k_asm); (case N => k_asm); (case hA => exact rfl); (case hh => exact rfl); (case hg => exact rfl); (case hf => exact rfl); (case hke => exact rfl); (case hD => exact Nat.le_of_ble_eq_true rfl); (case hU => exact Nat.le_of_ble_eq_true rfl); (case hc => omega); (case hn => k_extra "MINE nil"); k_whole); intro v9 h9 tk9 n9 F9 N9 ap9 p9; obtain ⟨hn9, e9⟩ := p9; subst hn9; subst e9; clear ap9; (try simp only [List.nil_append] at N9); (try k_sweep))
  trivial


/-- a mark: the next loop is taken by hand -/
structure HandLoop : Prop where
  mark :: (one : True)
def Stopped (P : Prop) : Prop := P
theorem unstop {P : Prop} (h : Stopped P) : P := h
theorem words04_8 : True := by
  k_with "pyIter ref" => ((rename HandLoop => hHL); refine unstop ?_)
  k_with "exec For" => ((rename HandLoop => hHL); k_here; (rename Fr _ _ _ _ => lF'); (with_unfolding_all refine' For_invVF lF' ?k1 ?k2 ?_; (case k1 => exact rfl); (case k2 => exact rfl); k_whole))
  trivial

/-- texts of signs below 128 -/
def Asc (x : Str) : Prop := ∀ c ∈ x.cps.toList, c < 128
def nmtokC (x : Str) : Bool := x.cps.toList.all charC && !x.cps.toList.isEmpty
theorem codes_nat {x : Str} {pre post : List Int} {n : Nat} (h : KStt.codes x = pre ++ (n : Int) :: post) : n ∈ x.cps.toList := by
  have : (n : Int) ∈ KStt.codes x := by rw [h]; simp
  obtain ⟨c, hc, e⟩ := List.mem_map.mp this
  exact (Int.ofNat.inj e) ▸ hc

theorem inv_end {σ : Type} {Ld : σ → List (Addr × Obj)} {ps : σ → List (Str × Value)} {Facts : σ → Prop} {x : Str} {stored : List Str} {m₀ m' : Str → Option Value} {P : List Int → σ → Prop} {pre : List Int}
    {h₀ h' : Heap} {L : Addr} {own news' : Led} {adr : List Addr} {s₁ : Shared} {tk' : Nat} (c' : σ) (F : Fr h₀ L h' m') (N : News h₀ L h' news') (hn : ∀ p ∈ Ld c', p ∈ news') (ho : ∀ p ∈ own, p ∈ news')
    (ha : (Ld c').map (·.1) = adr) (hf : Facts c') (hk : ∀ p ∈ ps c', m' p.1 = some p.2) (hz : ∀ z, z ≠ x → (∀ p ∈ ps c', z ≠ p.1) → stored.contains z = false → m' z = m₀ z) (hp : P pre c') :
    InvEndN h₀ L (KstS Ld ps Facts x stored m₀ P pre) own adr s₁ { s₁ with heap := h', toks := tk' } :=
  ⟨h', tk', m', news', _, rfl, F, N, hn, ho, ha, c', rfl, hf, hk, hz, hp⟩
theorem str_ne_empty (x : Str) : (x != Str.ofString "") = !x.cps.toList.isEmpty := by
  have e : Str.ofString "" = Str.mk #[] := by decide
  rw [e]
  obtain ⟨⟨l⟩⟩ := x
  cases l with
  | nil => decide
  | cons a r =>
    have : (Str.mk { toList := a :: r } : Str) ≠ Str.mk #[] := fun h => by simpa using congrArg (fun s => s.cps.toList) h
    show (!(Str.mk { toList := a :: r } == Str.mk #[])) = _
    rw [beq_eq_false_iff_ne.mpr this]; rfl

theorem nmtoken_does (e : Wd) (x : Str) (t : Tok) (hx : Asc x) :
    Does e 73 370 350 [.str x t] [] (fun v n' => ∃ n'', n' = n'' ++ [] ∧ n'' = [] ∧ v = .bool (nmtokC x)) := by
  k_dflt (refine' enter (binds := [(Str.ofString "text", .str x t)]) ?k6 ?k7 ?k8 ?k9 ?kB ?_ ?c5 ?c2 ?c3 ?c4; (case k6 => k_is); (case k7 => k_is); (case k8 => decide); (case k9 => intro s; exact BindsTo.of_eq rfl); (case kB => exact locs rfl); (case c5 => decide); (case c2 => exact rfl); (case c3 => exact rfl); (case c4 => exact rfl); k_whole; intro base g envs s0 L' h' tk' B' X' T' F' N' l1; (try k_lt l1); (try dsimp only [List.reverse, List.reverseAux] at F'); (try dsimp only); (try k_fold))
  have hHL : HandLoop := ⟨trivial⟩
  k_steps
  refine KStt.kst_text (σ := Unit) (fun _ => []) (fun _ => []) (fun _ => True) [] (fun pre _ => ∀ c : Nat, (c : Int) ∈ pre → charC c = true) () rfl (by assumption) (by assumption) trivial (fun _ hp => nomatch hp) (fun _ hc => nomatch hc) ?_ ?_
  · intro c pre post n tt u h2 tk2 own hcod hoff _ hP F2 N2
    have hn := codes_nat hcod
    have hc := hx n hn
    k_steps
    · refine inv_end () (by assumption) (by assumption) (fun _ hp => nomatch hp) (fun _ hp => hp) rfl trivial (fun _ hp => nomatch hp) (fun z hz _ _ => ?_) ?_
      · simp [hz, kstB]
      · intro c hc
        rcases List.mem_append.mp hc with hc | hc
        · exact hP c hc
        · have := Int.ofNat.inj (List.mem_singleton.mp hc)
          subst this; assumption
    · ((try dsimp only); refine' Back.intro [] ?Fq6 (fun _ hp => nomatch hp) ?_; (case Fq6 => k_asm))
      refine ⟨[], rfl, rfl, ?_⟩
      have : nmtokC x = false := by
        unfold nmtokC
        rw [List.all_eq_false.mpr ⟨n, hn, by simp_all⟩]; rfl
      rw [this]
  · intro c u h2 tk2 _ hP F2 N2
    k_steps
    ((try dsimp only); refine' Back.intro [] ?Fq7 (fun _ hp => nomatch hp) ?_; (case Fq7 => k_asm))
    refine ⟨[], rfl, rfl, ?_⟩
    have : x.cps.toList.all charC = true := List.all_eq_true.mpr fun c hc => hP c (List.mem_map.mpr ⟨c, hc, rfl⟩)
    rw [str_ne_empty, nmtokC, this]; rfl
theorem words04_9 : True := by
  k_with "call ref" => (k_here; (with_reducible show wpAny _ _ (call (Value.ref 73) _) _ _ _); k_dflt (refine' use0 (nmtoken_does _ _ _ ?hc) ?B ?F ?X ?T ?N ?hA ?hh ?hg ?hf ?hke ?hD ?hU ?hn ?_; (case B => k_asm); (case F => k_asm); (case X => k_asm); (case T => k_asm); (case N => k_asm); (case hA => exact rfl); (case hh => exact rfl); (case hg => exact rfl); (case hf => exact rfl); (case hke => exact rfl); (case hD => exact Nat.le_of_ble_eq_true rfl); (case hU => exact Nat.le_of_ble_eq_true rfl); (case hc => assumption); (case hn => k_extra "MINE nil"); k_whole); intro v9 h9 tk9 n9 F9 N9 ap9 p9; obtain ⟨hn9, e9⟩ := p9; subst hn9; subst e9; clear ap9; (try simp only [List.nil_append] at N9); (try k_sweep))
  trivial


def nameC (x : Str) : Bool := (match x.cps.toList with | [] => false | c :: _ => startC c) && nmtokC x

theorem item_sg {prog : Program} {w : World} {A : Around} {E : Value → Shared → Prop} {s : Shared} {value slice : PySem.Expr} {x : Str} {t : Tok} {i : Int} {u : Tok} {c : Nat} {Q : Value → Shared → Prop}
    (h0 : 0 ≤ i) (hc : x.cps.toList[i.toNat]? = some c) (hr : i < 9223372036854775807) (h : Q (.str (sg c) s.toks) { s with toks := s.toks + 1 })
    (hs : subscripted slice false (.str x t) (.int i u) = operate [.str x t, .int i u] (getItem (.str x t) (.int i u)) := by with_unfolding_all rfl)
    (ht : ∀ r, letTemporaryGo value (.str x t) r = pure () := by intro _; with_unfolding_all rfl) :
    wpAny (model prog w) A (subscriptTail value slice (.str x t) (.int i u)) Q E s := by
  have hc' : x.cps[i.toNat]? = some c := by rw [← Array.getElem?_toList]; exact hc
  have hlt : i.toNat < x.cps.size := by
    by_cases hb : i.toNat < x.cps.size
    · exact hb
    · rw [Array.getElem?_eq_none (by omega)] at hc'; cases hc'
  have hl : i < (x.length : Int) := by show i < (x.cps.size : Int); omega
  refine PyProof.Rows.item_str (fitsSsize_of (N := 9223372036854775807) (by omega) (by omega) (by decide)) (by omega) hl (fun _ => ?_) hs ht
  rw [item_meets h0 hc']
  exact h
theorem first_sign {x : Str} (h : (x != Str.ofString "") = true) : ∃ c r, x.cps.toList = c :: r := by
  rw [str_ne_empty] at h
  cases hl : x.cps.toList with
  | nil => rw [hl] at h; cases h
  | cons c r => exact ⟨c, r, rfl⟩
theorem words05_10 : True := by
  k_with "subscriptTail Name Constant str int" => k_dflt ((have hne9 : (_ != Str.ofString "") = true := (by assumption)); obtain ⟨c9, r9, hcr9⟩ := first_sign hne9; refine item_sg (by decide) (by rw [hcr9]; rfl) (by decide) ?_; (try (rename Asc _ => hAs9; have hc9 := hAs9 c9 (by rw [hcr9]; exact List.mem_cons_self))))
  trivial


theorem name_does (e : Wd) (x : Str) (t : Tok) (hx : Asc x) :
    Does e 80 360 300 [.str x t] [] (fun v n' => ∃ n'', n' = n'' ++ [] ∧ n'' = [] ∧ v = .bool (nameC x)) := by
  k_dflt (refine' enter (binds := [(Str.ofString "text", .str x t)]) ?k6 ?k7 ?k8 ?k9 ?kB ?_ ?c5 ?c2 ?c3 ?c4; (case k6 => k_is); (case k7 => k_is); (case k8 => decide); (case k9 => intro s; exact BindsTo.of_eq rfl); (case kB => exact locs rfl); (case c5 => decide); (case c2 => exact rfl); (case c3 => exact rfl); (case c4 => exact rfl); k_whole; intro base g envs s0 L' h' tk' B' X' T' F' N' l1; (try k_lt l1); (try dsimp only [List.reverse, List.reverseAux] at F'); (try dsimp only); (try k_fold))
  k_steps
  all_goals ((try dsimp only); refine' Back.intro [] ?Fq8 (fun _ hp => nomatch hp) ?_; (case Fq8 => k_asm))
  all_goals refine ⟨[], rfl, rfl, ?_⟩
  · refine congrArg Value.bool ?_
    simp_all [nameC]
  · refine congrArg Value.bool ?_
    simp_all [nameC]
  · refine congrArg Value.bool ?_
    have h9 : (x != Str.ofString "") = false := by assumption
    rw [h9]
    rw [str_ne_empty] at h9
    have : x.cps.toList = [] := by simpa using h9
    simp [nameC, this]
theorem words05_11 : True := by
  k_with "call ref" => (k_here; (with_reducible show wpAny _ _ (call (Value.ref 80) _) _ _ _); k_dflt (refine' use0 (name_does _ _ _ ?hc) ?B ?F ?X ?T ?N ?hA ?hh ?hg ?hf ?hke ?hD ?hU ?hn ?_; (case B => k_asm); (case F => k_asm); (case X => k_asm); (case T => k_asm); (case N => k_asm); (case hA => exact rfl); (case hh => exact rfl); (case hg => exact rfl); (case hf => exact rfl); (case hke => exact rfl); (case hD => exact Nat.le_of_ble_eq_true rfl); (case hU => exact Nat.le_of_ble_eq_true rfl); (case hc => assumption); (case hn => k_extra "MINE nil"); k_whole); intro v9 h9 tk9 n9 F9 N9 ap9 p9; obtain ⟨hn9, e9⟩ := p9; subst hn9; subst e9; clear ap9; (try simp only [List.nil_append] at N9); (try k_sweep))
  trivial


/-- k is one of l, as the walk says it -/
abbrev inL (l : List Str) (k : Str) : Bool := l.any fun x => x == k
def wordC (kind x : Str) : Bool := if inL [Str.ofString "NMTOKEN", Str.ofString "NMTOKENS"] kind = true then nmtokC x else nameC x

theorem word_does (e : Wd) (kind x : Str) (tk t : Tok) (hx : Asc x) :
    Does e 151 350 250 [.str kind tk, .str x t] [] (fun v n' => ∃ n'', n' = n'' ++ [] ∧ n'' = [] ∧ v = .bool (wordC kind x)) := by
  k_dflt (refine' enter (binds := [(Str.ofString "kind", .str kind tk), (Str.ofString "word", .str x t)]) ?k6 ?k7 ?k8 ?k9 ?kB ?_ ?c5 ?c2 ?c3 ?c4; (case k6 => k_is); (case k7 => k_is); (case k8 => decide); (case k9 => intro s; exact BindsTo.of_eq rfl); (case kB => exact locs rfl); (case c5 => decide); (case c2 => exact rfl); (case c3 => exact rfl); (case c4 => exact rfl); k_whole; intro base g envs s0 L' h' tk' B' X' T' F' N' l1; (try k_lt l1); (try dsimp only [List.reverse, List.reverseAux] at F'); (try dsimp only); (try k_fold))
  k_steps
  all_goals ((try dsimp only); refine' Back.intro [] ?Fq9 (fun _ hp => nomatch hp) ?_; (case Fq9 => k_asm))
  all_goals refine ⟨[], rfl, rfl, congrArg Value.bool ?_⟩
  · unfold wordC; rw [if_pos (by assumption)]
  · unfold wordC; rw [if_neg (by simp only [*]; decide)]
theorem words06_12 : True := by
  k_with "call ref" => (k_here; (with_reducible show wpAny _ _ (call (Value.ref 151) _) _ _ _); k_dflt (refine' use0 (word_does _ _ _ _ _ ?hc) ?B ?F ?X ?T ?N ?hA ?hh ?hg ?hf ?hke ?hD ?hU ?hn ?_; (case B => k_asm); (case F => k_asm); (case X => k_asm); (case T => k_asm); (case N => k_asm); (case hA => exact rfl); (case hh => exact rfl); (case hg => exact rfl); (case hf => exact rfl); (case hke => exact rfl); (case hD => exact Nat.le_of_ble_eq_true rfl); (case hU => exact Nat.le_of_ble_eq_true rfl); (case hc => assumption); (case hn => k_extra "MINE nil"); k_whole); intro v9 h9 tk9 n9 F9 N9 ap9 p9; obtain ⟨hn9, e9⟩ := p9; subst hn9; subst e9; clear ap9; (try simp only [List.nil_append] at N9); (try k_sweep))
  trivial


theorem words07_13 : True := by
  k_with "eval Dict" => (k_here; k_dflt (refine' kdn_str ?q ?F ?N ?b ?a ?l ?e ?n ?_; (case q => rfl); (case F => k_asm); (case N => first | k_asm | exact News.nil); (case b => exact Top.nolimit (by k_asm)); (case a => rfl); (case l => rfl); (case e => exact List.cons_ne_nil _ _); (case n => exact Nat.le_of_ble_eq_true rfl)); intro d' h' o' F' N' l1 lo' hd'; (try k_lt l1))
  trivial

abbrev tup2 (a b : Bool) : Obj := { cls := .type "tuple", data := .seq #[.bool a, .bool b] }
/-- what _law_words gives: a new dict of nine new pairs -/
def WTab (e : Wd) (v : Value) (n : Led) : Prop := ∃ (d : Nat) (o : Obj) (a0 a1 a2 a3 a4 a5 a6 a7 a8 : Nat), v = .ref d ∧ (d == sysModules) = false ∧
  n = [(a8, tup2 false false), (a7, tup2 false false), (a6, tup2 false false), (a5, tup2 false true), (a4, tup2 false true), (a3, tup2 true true), (a2, tup2 true true), (a1, tup2 true true), (a0, tup2 true true), (d, o)] ∧
  o.IsDictOf (PySem.strKind PySem.Challenge.rw_on0182_01.row.prog e.w) [(Str.ofString "a", .ref a0), (Str.ofString "b", .ref a1), (Str.ofString "x.y-1", .ref a2), (Str.ofString "_z", .ref a3), (Str.ofString "1a", .ref a4), (Str.ofString "-b", .ref a5), (Str.ofString "a,b", .ref a6), (Str.ofString "(", .ref a7), (Str.ofString "", .ref a8)]
theorem words_does (e : Wd) : Does e 193 390 450 [] [] (fun v n' => ∃ n'', n' = n'' ++ [] ∧ WTab e v n'') := by
  k_dflt (refine' enter (binds := []) ?k6 ?k7 ?k8 ?k9 ?kB ?_ ?c5 ?c2 ?c3 ?c4; (case k6 => k_is); (case k7 => k_is); (case k8 => decide); (case k9 => intro s; exact BindsTo.of_eq rfl); (case kB => exact locs rfl); (case c5 => decide); (case c2 => exact rfl); (case c3 => exact rfl); (case c4 => exact rfl); k_whole; intro base g envs s0 L' h' tk' B' X' T' F' N' l1; (try k_lt l1); (try dsimp only [List.reverse, List.reverseAux] at F'); (try dsimp only); (try k_fold))
  k_steps
  (first | (dsimp only; refine' Back.intro _ ?Fq10 ?Nq10 ?_; (case Fq10 => k_asm); (case Nq10 => k_asm)) | (refine' Back.intro _ ?Fq10 ?Nq10 ?_; (case Fq10 => k_asm); (case Nq10 => k_asm)))
  exact ⟨_, (List.append_nil _).symm, _, _, _, _, _, _, _, _, _, _, _, rfl, by assumption, rfl, by assumption⟩
theorem words07_14 : True := by
  k_with "call ref" => (k_here; (with_reducible show wpAny _ _ (call (Value.ref 193) _) _ _ _); k_dflt (refine' use0 (words_does _) ?B ?F ?X ?T ?N ?hA ?hh ?hg ?hf ?hke ?hD ?hU ?hn ?_; (case B => k_asm); (case F => k_asm); (case X => k_asm); (case T => k_asm); (case N => k_asm); (case hA => exact rfl); (case hh => exact rfl); (case hg => exact rfl); (case hf => exact rfl); (case hke => exact rfl); (case hD => exact Nat.le_of_ble_eq_true rfl); (case hU => exact Nat.le_of_ble_eq_true rfl); (case hn => k_extra "MINE nil"); k_whole); intro v9 h9 tk9 n9 F9 N9 ap9 p9; unfold WTab at p9; obtain ⟨d9, o9, a0, a1, a2, a3, a4, a5, a6, a7, a8, e9, lo9, hn9, hd9⟩ := p9; subst hn9; subst e9; (try simp only [List.cons_append, List.nil_append] at N9); (try k_sweep))
  trivial

def wtab : List (Str × Bool × Bool) := [(Str.ofString "a", true, true), (Str.ofString "b", true, true), (Str.ofString "x.y-1", true, true), (Str.ofString "_z", true, true), (Str.ofString "1a", false, true), (Str.ofString "-b", false, true), (Str.ofString "a,b", false, false), (Str.ofString "(", false, false), (Str.ofString "", false, false)]
def tabC (x : Str) : Bool × Bool := (wtab.lookup x).getD (false, false)
def lwordC (kind x : Str) : Bool := if inL [Str.ofString "NMTOKEN", Str.ofString "NMTOKENS", Str.ofString "enumeration"] kind = true then (tabC x).2 else (tabC x).1

theorem get_tab {e : Wd} {A : Around} {E : Value → Shared → Prop} {s : Shared} {h₀ : Heap} {L : Addr} {x : Str} {t : Tok} {Q : Value → Shared → Prop} {o : Obj} {d a0 a1 a2 a3 a4 a5 a6 a7 a8 dd : Nat}
    (N : News h₀ L s.heap [(dd, tup2 false false), (a8, tup2 false false), (a7, tup2 false false), (a6, tup2 false false), (a5, tup2 false true), (a4, tup2 false true), (a3, tup2 true true), (a2, tup2 true true), (a1, tup2 true true), (a0, tup2 true true), (d, o)])
    (lo : (d == sysModules) = false)
    (hd : o.IsDictOf (PySem.strKind PySem.Challenge.rw_on0182_01.row.prog e.w) [(Str.ofString "a", .ref a0), (Str.ofString "b", .ref a1), (Str.ofString "x.y-1", .ref a2), (Str.ofString "_z", .ref a3), (Str.ofString "1a", .ref a4), (Str.ofString "-b", .ref a5), (Str.ofString "a,b", .ref a6), (Str.ofString "(", .ref a7), (Str.ofString "", .ref a8)])
    (h : ∀ a, (a, tup2 (tabC x).1 (tabC x).2) ∈ [(dd, tup2 false false), (a8, tup2 false false), (a7, tup2 false false), (a6, tup2 false false), (a5, tup2 false true), (a4, tup2 false true), (a3, tup2 true true), (a2, tup2 true true), (a1, tup2 true true), (a0, tup2 true true), (d, o)] → Q (.ref a) { s with toks := s.toks + 1 }) :
    wpAny (model PySem.Challenge.rw_on0182_01.row.prog e.w) A (call (.builtin "dict.get") [.ref d, .str x t, .ref dd]) Q E s := by
  refine kdg_get2 N (by simp) hd lo (strKind_is _ _ _ _) _ rfl ?_
  unfold valueAt
  by_cases h0 : x = Str.ofString "a"
  · subst h0; exact h a0 (by simp [show tabC (Str.ofString "a") = (true, true) from by decide])
  by_cases h1 : x = Str.ofString "b"
  · subst h1; exact h a1 (by simp [show tabC (Str.ofString "b") = (true, true) from by decide])
  by_cases h2 : x = Str.ofString "x.y-1"
  · subst h2; exact h a2 (by simp [show tabC (Str.ofString "x.y-1") = (true, true) from by decide])
  by_cases h3 : x = Str.ofString "_z"
  · subst h3; exact h a3 (by simp [show tabC (Str.ofString "_z") = (true, true) from by decide])
  by_cases h4 : x = Str.ofString "1a"
  · subst h4; exact h a4 (by simp [show tabC (Str.ofString "1a") = (false, true) from by decide])
  by_cases h5 : x = Str.ofString "-b"
  · subst h5; exact h a5 (by simp [show tabC (Str.ofString "-b") = (false, true) from by decide])
  by_cases h6 : x = Str.ofString "a,b"
  · subst h6; exact h a6 (by simp [show tabC (Str.ofString "a,b") = (false, false) from by decide])
  by_cases h7 : x = Str.ofString "("
  · subst h7; exact h a7 (by simp [show tabC (Str.ofString "(") = (false, false) from by decide])
  by_cases h8 : x = Str.ofString ""
  · subst h8; exact h a8 (by simp [show tabC (Str.ofString "") = (false, false) from by decide])
  have hf : List.find? (fun kv : Str × Value => decide (kv.1 = x)) [(Str.ofString "a", Value.ref a0), (Str.ofString "b", .ref a1), (Str.ofString "x.y-1", .ref a2), (Str.ofString "_z", .ref a3), (Str.ofString "1a", .ref a4), (Str.ofString "-b", .ref a5), (Str.ofString "a,b", .ref a6), (Str.ofString "(", .ref a7), (Str.ofString "", .ref a8)] = none := by
    simp [List.find?_eq_none, Ne.symm h0, Ne.symm h1, Ne.symm h2, Ne.symm h3, Ne.symm h4, Ne.symm h5, Ne.symm h6, Ne.symm h7, Ne.symm h8, eq_comm, h0, h1, h2, h3, h4, h5, h6, h7, h8]
  have ht : tabC x = (false, false) := by
    simp [tabC, wtab, List.lookup, beq_eq_false_iff_ne.mpr h0, beq_eq_false_iff_ne.mpr h1, beq_eq_false_iff_ne.mpr h2, beq_eq_false_iff_ne.mpr h3, beq_eq_false_iff_ne.mpr h4, beq_eq_false_iff_ne.mpr h5, beq_eq_false_iff_ne.mpr h6, beq_eq_false_iff_ne.mpr h7, beq_eq_false_iff_ne.mpr h8]
  rw [hf]
  exact h dd (by rw [ht]; exact List.mem_cons_self)

theorem item_tup2 {prog : Program} {w : World} {A : Around} {E : Value → Shared → Prop} {s : Shared} {h₀ : Heap} {L : Addr} {news : Led} {value slice : PySem.Expr} {a : Addr} {b0 b1 b : Bool} {u : Tok} {Q : Value → Shared → Prop}
    (N : News h₀ L s.heap news) (hm : (a, tup2 b0 b1) ∈ news) (h : Q (.bool (if b = true then b1 else b0)) s)
    (hs : subscripted slice false (.ref a) (.int (if b = true then 1 else 0) u) = operate [.ref a, .int (if b = true then 1 else 0) u] (getItem (.ref a) (.int (if b = true then 1 else 0) u)) := by with_unfolding_all rfl) :
    wpAny (model prog w) A (subscriptTail value slice (.ref a) (.int (if b = true then 1 else 0) u)) Q E s := by
  have ht : IsTup s.heap a [Value.bool b0, Value.bool b1].toArray := News.isTup N hm
  cases b with
  | true => exact PyProof.Rows.item_tupleT ht (by decide) (by decide) (j := 1) (by rfl) rfl h hs
  | false => exact PyProof.Rows.item_tupleT ht (by decide) (by decide) (j := 0) (by rfl) rfl h hs

theorem lword_does (e : Wd) (kind x : Str) (tk t : Tok) :
    Does e 220 370 350 [.str kind tk, .str x t] [] (fun v n' => ∃ n'', n' = n'' ++ [] ∧ n'' = [] ∧ v = .bool (lwordC kind x)) := by
  k_dflt (refine' enter (binds := [(Str.ofString "kind", .str kind tk), (Str.ofString "word", .str x t)]) ?k6 ?k7 ?k8 ?k9 ?kB ?_ ?c5 ?c2 ?c3 ?c4; (case k6 => k_is); (case k7 => k_is); (case k8 => decide); (case k9 => intro s; exact BindsTo.of_eq rfl); (case kB => exact locs rfl); (case c5 => decide); (case c2 => exact rfl); (case c3 => exact rfl); (case c4 => exact rfl); k_whole; intro base g envs s0 L' h' tk' B' X' T' F' N' l1; (try k_lt l1); (try dsimp only [List.reverse, List.reverseAux] at F'); (try dsimp only); (try k_fold))
  k_steps
  refine get_tab (by k_asm) (by assumption) (by assumption) (fun a ha => ?_)
  k_steps
  refine item_tup2 (by k_asm) (List.mem_cons_of_mem _ ha) ?_
  k_steps
  ((try dsimp only); refine' Back.intro [] ?Fq11 (fun _ hp => nomatch hp) ?_; (case Fq11 => k_asm))
  exact ⟨[], rfl, rfl, rfl⟩
theorem words07_15 : True := by
  k_with "call ref" => (k_here; (with_reducible show wpAny _ _ (call (Value.ref 220) _) _ _ _); k_dflt (refine' use0 (lword_does _ _ _ _ _) ?B ?F ?X ?T ?N ?hA ?hh ?hg ?hf ?hke ?hD ?hU ?hn ?_; (case B => k_asm); (case F => k_asm); (case X => k_asm); (case T => k_asm); (case N => k_asm); (case hA => exact rfl); (case hh => exact rfl); (case hg => exact rfl); (case hf => exact rfl); (case hke => exact rfl); (case hD => exact Nat.le_of_ble_eq_true rfl); (case hU => exact Nat.le_of_ble_eq_true rfl); (case hn => k_extra "MINE nil"); k_whole); intro v9 h9 tk9 n9 F9 N9 ap9 p9; obtain ⟨hn9, e9⟩ := p9; subst hn9; subst e9; clear ap9; (try simp only [List.nil_append] at N9); (try k_sweep))
  trivial


def spC (c : Nat) : Bool := c == 32 || c == 9 || c == 10 || c == 13
theorem sp_found (y : Str) (hy : y.cps.toList = [32, 9, 10, 13] ∨ y.cps.toList = [32, 9, 13, 10]) (c : Nat) : (!(Builtin.Str.occurrences y (sg c) 0 y.length 1).isEmpty) = spC c := by
  rw [StrLaws.found_one]
  rcases hy with hy | hy <;> rw [hy, Bool.eq_iff_iff] <;> simp [spC] <;> omega
theorem sp_lit : (Str.ofString " \t\n\u000d").cps.toList = [32, 9, 10, 13] := by decide

theorem space_does (e : Wd) (c : Nat) (t : Tok) :
    Does e 45 390 450 [.str (sg c) t] [] (fun v n' => ∃ n'', n' = n'' ++ [] ∧ n'' = [] ∧ v = .bool (spC c)) := by
  k_dflt (refine' enter (binds := [(Str.ofString "sign", .str (sg c) t)]) ?k6 ?k7 ?k8 ?k9 ?kB ?_ ?c5 ?c2 ?c3 ?c4; (case k6 => k_is); (case k7 => k_is); (case k8 => decide); (case k9 => intro s; exact BindsTo.of_eq rfl); (case kB => exact locs rfl); (case c5 => decide); (case c2 => exact rfl); (case c3 => exact rfl); (case c4 => exact rfl); k_whole; intro base g envs s0 L' h' tk' B' X' T' F' N' l1; (try k_lt l1); (try dsimp only [List.reverse, List.reverseAux] at F'); (try dsimp only); (try k_fold))
  k_steps
  all_goals ((try dsimp only); refine' Back.intro [] ?Fq13 (fun _ hp => nomatch hp) ?_; (case Fq13 => k_asm))
  all_goals refine ⟨[], rfl, rfl, ?_⟩
  all_goals have hq := sp_found _ (.inl sp_lit) c
  · rw [hq]
  · have h9 : (Builtin.Str.occurrences (Str.ofString " \t\n\u000d") (sg c) 0 (Str.ofString " \t\n\u000d").length 1).isEmpty = false := by assumption
    rw [h9] at hq
    rw [← hq, str_ne_empty]; rfl
theorem words08_16 : True := by
  k_with "call ref" => (k_here; (with_reducible show wpAny _ _ (call (Value.ref 45) _) _ _ _); k_dflt (refine' use0 (space_does _ _ _) ?B ?F ?X ?T ?N ?hA ?hh ?hg ?hf ?hke ?hD ?hU ?hn ?_; (case B => k_asm); (case F => k_asm); (case X => k_asm); (case T => k_asm); (case N => k_asm); (case hA => exact rfl); (case hh => exact rfl); (case hg => exact rfl); (case hf => exact rfl); (case hke => exact rfl); (case hD => exact Nat.le_of_ble_eq_true rfl); (case hU => exact Nat.le_of_ble_eq_true rfl); (case hn => k_extra "MINE nil"); k_whole); intro v9 h9 tk9 n9 F9 N9 ap9 p9; obtain ⟨hn9, e9⟩ := p9; subst hn9; subst e9; clear ap9; (try simp only [List.nil_append] at N9); (try k_sweep))
  trivial


/-- the split at spaces, sign by sign -/
def stepW (st : List (List Nat) × List Nat) (c : Nat) : List (List Nat) × List Nat :=
  if spC c = true then (if st.2 = [] then st.1 else st.1 ++ [st.2], []) else (st.1, st.2 ++ [c])
def runs (l : List Nat) : List (List Nat) × List Nat := l.foldl stepW ([], [])
def words0 (l : List Nat) : List (List Nat) := if (runs l).2 = [] then (runs l).1 else (runs l).1 ++ [(runs l).2]
def mkS (l : List Nat) : Str := Str.mk l.toArray
def splitL (x : Str) : List Str := (words0 x.cps.toList).map mkS

def SpInv (x : Str) (i : Nat) (vs : List Value) (b : Int) : Prop :=
  0 ≤ b ∧ (i ≤ x.length → b ≤ i ∧ StrsAre vs ((runs (x.cps.toList.take i)).1.map mkS) ∧ (x.cps.toList.take i).drop b.toNat = (runs (x.cps.toList.take i)).2) ∧ (x.length < i → StrsAre vs (splitL x))
theorem runs_next {l : List Nat} {i c : Nat} (h : l[i]? = some c) : runs (l.take (i + 1)) = stepW (runs (l.take i)) c := by
  unfold runs
  rw [List.take_add_one, h, List.foldl_append]; rfl
theorem len_list (x : Str) : x.cps.toList.length = x.length := by simp [PySem.Str.length]
theorem slice_mk {x : Str} {b : Int} {i : Nat} (h0 : 0 ≤ b) (hb : b ≤ i) (hi : i ≤ x.length) : Txt.slice x (some b) (some (i : Int)) = mkS ((x.cps.toList.take i).drop b.toNat) := by
  have := eq_of_beq (slice_closesL (x := x) (i := b) (j := (i : Int)) h0 hb (by omega))
  rw [this, List.drop_take]
  unfold mkS
  congr 3
  omega
theorem cur_empty {x : Str} {i : Nat} {b : Int} (h0 : 0 ≤ b) (hi : i ≤ x.length) (h : (x.cps.toList.take i).drop b.toNat = (runs (x.cps.toList.take i)).2) : (runs (x.cps.toList.take i)).2 = [] ↔ ¬ b < i := by
  rw [← h, List.drop_eq_nil_iff, List.length_take, len_list]
  omega
theorem sp_start (x : Str) : SpInv x 0 [] 0 := by
  refine ⟨Int.le_refl _, fun _ => ⟨Int.le_refl _, ?_, ?_⟩, fun h => absurd h (Nat.not_lt_zero _)⟩
  · rw [List.take_zero]; exact .nil
  · rw [List.take_zero]; rfl
theorem sp_sign {x : Str} {i c : Nat} {vs : List Value} {b : Int} (h : SpInv x i vs b) (hc : x.cps.toList[i]? = some c) (hs : spC c = false) : SpInv x (i + 1) vs b := by
  have hl : i < x.length := by rw [← len_list]; exact (List.getElem?_eq_some_iff.mp hc).1
  obtain ⟨h1, h2, h3⟩ := h.2.1 (Nat.le_of_lt hl)
  refine ⟨h.1, fun _ => ⟨by omega, ?_, ?_⟩, fun hh => absurd hh (by omega)⟩
  · rw [runs_next hc]; unfold stepW; rw [if_neg (by rw [hs]; decide)]; exact h2
  · rw [runs_next hc]; unfold stepW; rw [if_neg (by rw [hs]; decide)]
    rw [List.take_add_one, hc, List.drop_append_of_le_length (by rw [List.length_take, len_list]; omega), h3]; rfl
theorem sp_word {x : Str} {i : Nat} {vs : List Value} {b : Int} {t : Tok} (h : SpInv x i vs b) (hi : i ≤ x.length) (hb : b < i) (hc : i = x.length ∨ ∃ c, x.cps.toList[i]? = some c ∧ spC c = true) :
    SpInv x (i + 1) (vs ++ [.str (Txt.slice x (some b) (some (i : Int))) t]) (i + 1) := by
  obtain ⟨h1, h2, h3⟩ := h.2.1 hi
  have hne : (runs (x.cps.toList.take i)).2 ≠ [] := fun e => (cur_empty h.1 hi h3).mp e hb
  have hS : StrsAre (vs ++ [.str (Txt.slice x (some b) (some (i : Int))) t]) (((runs (x.cps.toList.take i)).1 ++ [(runs (x.cps.toList.take i)).2]).map mkS) := by
    rw [List.map_append, slice_mk h.1 h1 hi, h3]
    exact h2.append' (.cons _ _ .nil)
  refine ⟨by omega, fun hle => ⟨by omega, ?_, ?_⟩, fun hgt => ?_⟩
  · rcases hc with hc | ⟨c, hc, hs⟩
    · omega
    · rw [runs_next hc]; unfold stepW; rw [if_pos hs, if_neg hne]; exact hS
  · rcases hc with hc | ⟨c, hc, hs⟩
    · omega
    · rw [runs_next hc]; unfold stepW; rw [if_pos hs]
      exact List.drop_eq_nil_iff.mpr (by rw [List.length_take]; omega)
  · have e : i = x.length := by omega
    have ht : x.cps.toList.take i = x.cps.toList := List.take_of_length_le (by rw [len_list]; omega)
    rw [ht] at hS hne
    unfold splitL words0
    rw [if_neg hne]; exact hS
theorem sp_none {x : Str} {i : Nat} {vs : List Value} {b : Int} (h : SpInv x i vs b) (hi : i ≤ x.length) (hb : ¬ b < i) (hc : i = x.length ∨ ∃ c, x.cps.toList[i]? = some c ∧ spC c = true) :
    SpInv x (i + 1) vs (i + 1) := by
  obtain ⟨h1, h2, h3⟩ := h.2.1 hi
  have hn : (runs (x.cps.toList.take i)).2 = [] := (cur_empty h.1 hi h3).mpr hb
  refine ⟨by omega, fun hle => ⟨by omega, ?_, ?_⟩, fun hgt => ?_⟩
  · rcases hc with hc | ⟨c, hc, hs⟩
    · omega
    · rw [runs_next hc]; unfold stepW; rw [if_pos hs, if_pos hn]; exact h2
  · rcases hc with hc | ⟨c, hc, hs⟩
    · omega
    · rw [runs_next hc]; unfold stepW; rw [if_pos hs]
      exact List.drop_eq_nil_iff.mpr (by rw [List.length_take]; omega)
  · have e : i = x.length := by omega
    have ht : x.cps.toList.take i = x.cps.toList := List.take_of_length_le (by rw [len_list]; omega)
    rw [ht] at h2 hn
    unfold splitL words0
    rw [if_pos hn]; exact h2

theorem news_pick {h₀ h : Heap} {L l : Addr} {o : Obj} {news : Led} (N : News h₀ L h news) (hm : (l, o) ∈ news) : News h₀ L h [(l, o)] := fun p hp => by
  rw [List.mem_singleton.mp hp]; exact N _ hm
theorem item_any {prog : Program} {w : World} {A : Around} {E : Value → Shared → Prop} {s : Shared} {value slice : PySem.Expr} {x : Str} {t : Tok} {i : Int} {u : Tok} {Q : Value → Shared → Prop}
    (h0 : 0 ≤ i) (hi : i < x.length) (hr : x.length ≤ 1000) (h : ∀ c, x.cps.toList[i.toNat]? = some c → Q (.str (sg c) s.toks) { s with toks := s.toks + 1 })
    (hs : subscripted slice false (.str x t) (.int i u) = operate [.str x t, .int i u] (getItem (.str x t) (.int i u)) := by with_unfolding_all rfl)
    (ht : ∀ r, letTemporaryGo value (.str x t) r = pure () := by intro _; with_unfolding_all rfl) :
    wpAny (model prog w) A (subscriptTail value slice (.str x t) (.int i u)) Q E s := by
  have hb : i.toNat < x.cps.toList.length := by rw [len_list]; omega
  exact item_sg h0 (List.getElem?_eq_getElem hb) (by omega) (h _ (List.getElem?_eq_getElem hb)) hs ht
theorem words08_17 : True := by
  k_with "subscriptTail Name Name str int" => k_dflt (refine item_any (by omega) (by omega) (by omega) ?_; intro c9 hc9)
  k_with "call builtin:list.append" => k_dflt ((with_reducible show wpAny _ _ (call (Value.builtin _) [Value.ref _, _]) _ _ _); refine' append_K ?k1 ?k2 ?k3 ?_ ?z; (case k1 => k_asm); (case k2 => k_asm); (case k3 => (refine Upd.head ?_; assumption)); (case z => (rw [PySem.sizeLine_eq]; (try simp only [List.size_toArray, Array.size_push]); omega)); k_whole; intro h' F' N'; (try k_sweep))
  trivial


theorem split_does (e : Wd) (x : Str) (t : Tok) (hx : x.length ≤ 1000) :
    Does e 87 360 350 [.str x t] [] (fun v n' => ∃ n'', n' = n'' ++ [] ∧ ∃ (a : Nat) (vs : List Value) (ep : Nat), v = .ref a ∧ n'' = [(a, W.listOf vs.toArray ep)] ∧ StrsAre vs (splitL x)) := by
  k_dflt (refine' enter (binds := [(Str.ofString "text", .str x t)]) ?k6 ?k7 ?k8 ?k9 ?kB ?_ ?c5 ?c2 ?c3 ?c4; (case k6 => k_is); (case k7 => k_is); (case k8 => decide); (case k9 => intro s; exact BindsTo.of_eq rfl); (case kB => exact locs rfl); (case c5 => decide); (case c2 => exact rfl); (case c3 => exact rfl); (case c4 => exact rfl); k_whole; intro base g envs s0 L' h' tk' B' X' T' F' N' l1; (try k_lt l1); (try dsimp only [List.reverse, List.reverseAux] at F'); (try dsimp only); (try k_fold))
  have hHL : HandLoop := ⟨trivial⟩
  k_steps
  rename_i l _ _ D _ _ _ _ _ _ _ _ _ _ _ _ hR hF hN _
  unfold Stopped
  clear hHL
  refine kst_range (σ := List Value × Nat × Int × Tok) (fun c => [(l, W.listOf c.1.toArray c.2.1)]) (fun c => [(Str.ofString "begin", .int c.2.2.1 c.2.2.2)]) (fun _ => True) [] (fun pre c => SpInv x pre.length c.1 c.2.2.1 ∧ c.1.length ≤ pre.length) ([], 0, 0, tk')
    rfl hR (small_one (by omega) (by omega) (by omega) (by omega)) (n := x.length + 1) (by rw [rangeSize_nat]; omega) hF (news_pick hN (by k_mem)) trivial ?_ ⟨sp_start x, Nat.le_refl _⟩ ?_ ?_
  · intro p hp; rw [List.mem_singleton.mp hp]; rfl
  · rintro ⟨vs, ep, b, tb⟩ pre k tt u h2 tk2 own rfl hlt hoff _ ⟨hI, hvl⟩ hF2 hN2
    have hk0 : (0 : Int) + (pre.length : Int) = (pre.length : Int) := by omega
    dsimp only at hI hvl hF2 hN2
    rw [hk0] at hF2 ⊢
    simp only [List.cons_append, List.nil_append] at hN2
    have hown : ∀ p ∈ own, p.1 ≠ l := fun p hp => hoff p hp l (by simp)
    have hb0 := hI.1
    k_steps
    · refine' inv_end (vs ++ [Value.str (Txt.slice x (some b) (some (pre.length : Int))) _], ep + 1, (pre.length : Int) + 1, _) (by assumption) (by assumption) ?hn (fun p hp => List.mem_cons_of_mem _ hp) rfl trivial ?hk ?hz ?hp
      case hn => intro p hp; rw [List.mem_singleton.mp hp, List.mem_cons]; exact .inl (by simp; rfl)
      case hk => intro p hp; rw [List.mem_singleton.mp hp]; rfl
      case hz => intro z hz hp _; have hb : z ≠ Str.ofString "begin" := hp _ (List.mem_singleton.mpr rfl); simp [hz, hb, kstB]
      case hp =>
        refine ⟨?_, by simp; omega⟩
        rw [List.length_append]
        exact sp_word hI (by omega) (by omega) (by first | exact .inl (by omega) | exact .inr ⟨c9, by simpa using hc9, by assumption⟩)
    · refine' inv_end (vs, ep, (pre.length : Int) + 1, _) (by assumption) (by assumption) ?hn (fun p hp => List.mem_cons_of_mem _ hp) rfl trivial ?hk ?hz ?hp
      case hn => intro p hp; rw [List.mem_singleton.mp hp]; exact List.mem_cons_self
      case hk => intro p hp; rw [List.mem_singleton.mp hp]; rfl
      case hz => intro z hz hp _; have hb : z ≠ Str.ofString "begin" := hp _ (List.mem_singleton.mpr rfl); simp [hz, hb, kstB]
      case hp =>
        refine ⟨?_, by simp; omega⟩
        rw [List.length_append]
        exact sp_none hI (by omega) (by omega) (by first | exact .inl (by omega) | exact .inr ⟨c9, by simpa using hc9, by assumption⟩)
    · refine' inv_end (vs ++ [Value.str (Txt.slice x (some b) (some (pre.length : Int))) _], ep + 1, (pre.length : Int) + 1, _) (by assumption) (by assumption) ?hn (fun p hp => List.mem_cons_of_mem _ hp) rfl trivial ?hk ?hz ?hp
      case hn => intro p hp; rw [List.mem_singleton.mp hp, List.mem_cons]; exact .inl (by simp; rfl)
      case hk => intro p hp; rw [List.mem_singleton.mp hp]; rfl
      case hz => intro z hz hp _; have hb : z ≠ Str.ofString "begin" := hp _ (List.mem_singleton.mpr rfl); simp [hz, hb, kstB]
      case hp =>
        refine ⟨?_, by simp; omega⟩
        rw [List.length_append]
        exact sp_word hI (by omega) (by omega) (by first | exact .inl (by omega) | exact .inr ⟨c9, by simpa using hc9, by assumption⟩)
    · refine' inv_end (vs, ep, (pre.length : Int) + 1, _) (by assumption) (by assumption) ?hn (fun p hp => List.mem_cons_of_mem _ hp) rfl trivial ?hk ?hz ?hp
      case hn => intro p hp; rw [List.mem_singleton.mp hp]; exact List.mem_cons_self
      case hk => intro p hp; rw [List.mem_singleton.mp hp]; rfl
      case hz => intro z hz hp _; have hb : z ≠ Str.ofString "begin" := hp _ (List.mem_singleton.mpr rfl); simp [hz, hb, kstB]
      case hp =>
        refine ⟨?_, by simp; omega⟩
        rw [List.length_append]
        exact sp_none hI (by omega) (by omega) (by first | exact .inl (by omega) | exact .inr ⟨c9, by simpa using hc9, by assumption⟩)
    · refine inv_end (vs, ep, b, tb) (by assumption) (by assumption) ?_ (fun p hp => List.mem_cons_of_mem _ hp) rfl trivial ?_ ?_ ?_
      · intro p hp; rw [List.mem_singleton.mp hp]; exact List.mem_cons_self
      · intro p hp; rw [List.mem_singleton.mp hp]; rfl
      · intro z hz hp _; have hb : z ≠ Str.ofString "begin" := hp _ (List.mem_singleton.mpr rfl); simp [hz, hb, kstB]
      · refine ⟨?_, by simp; omega⟩
        rw [List.length_append]
        exact sp_sign hI (by simpa using hc9) (by assumption)
  · rintro ⟨vs, ep, b, tb⟩ u h2 tk2 _ ⟨hI, hvl⟩ hF2 hN2
    k_steps
    (first | (dsimp only; refine' Back.intro _ ?Fq12 ?Nq12 ?_; (case Fq12 => k_asm); (case Nq12 => k_asm)) | (refine' Back.intro _ ?Fq12 ?Nq12 ?_; (case Fq12 => k_asm); (case Nq12 => k_asm)))
    refine ⟨_, (List.append_nil _).symm, l, vs, ep, rfl, rfl, ?_⟩
    rw [rangeKs_length] at hI
    exact hI.2.2 (Nat.lt_succ_self _)
theorem words08_18 : True := by
  k_with "call ref" => (k_here; (with_reducible show wpAny _ _ (call (Value.ref 87) _) _ _ _); k_dflt (refine' use0 (split_does _ _ _ ?hx) ?B ?F ?X ?T ?N ?hA ?hh ?hg ?hf ?hke ?hD ?hU ?hn ?_; (case B => k_asm); (case F => k_asm); (case X => k_asm); (case T => k_asm); (case N => k_asm); (case hA => exact rfl); (case hh => exact rfl); (case hg => exact rfl); (case hf => exact rfl); (case hke => exact rfl); (case hD => exact Nat.le_of_ble_eq_true rfl); (case hU => exact Nat.le_of_ble_eq_true rfl); (case hx => (first | assumption | omega)); (case hn => k_extra "MINE nil"); k_whole; intro v9 h9 tk9 n9 F9 N9 ap9 p9; obtain ⟨a9, vs9, ep9, e9, hn9, hv9⟩ := p9; subst hn9; subst e9; (try simp only [List.cons_append, List.nil_append] at N9); (try k_sweep)))
  trivial


/-- texts light enough to be joined -/
def Light (ys : List Str) : Prop := (ys.map (·.length)).sum + ys.length ≤ 20000
theorem Light.le {ys : List Str} (h : Light ys) : (ys.map (·.length)).sum + ys.length ≤ 1048576 := by unfold Light at h; omega
def Fine (w : List Nat) : Prop := w ≠ [] ∧ ∀ c ∈ w, spC c = false
theorem fold_word : ∀ (w : List Nat) (st : List (List Nat) × List Nat), (∀ c ∈ w, spC c = false) → w.foldl stepW st = (st.1, st.2 ++ w)
  | [], st, _ => by simp
  | c :: r, st, h => by
    have hc : ¬ spC c = true := by rw [h c List.mem_cons_self]; decide
    rw [List.foldl_cons, show stepW st c = (st.1, st.2 ++ [c]) from by unfold stepW; rw [if_neg hc], fold_word r _ fun d hd => h d (List.mem_cons_of_mem _ hd)]
    simp
theorem fold_sp : ∀ (w : List Nat) (st : List (List Nat) × List Nat), w ≠ [] → (∀ c ∈ w, spC c = true) → w.foldl stepW st = (if st.2 = [] then st.1 else st.1 ++ [st.2], [])
  | [], st, h, _ => absurd rfl h
  | [c], st, _, h => by
    show stepW st c = _
    unfold stepW; rw [if_pos (h c List.mem_cons_self)]
  | c :: d :: r, st, _, h => by
    rw [List.foldl_cons, show stepW st c = (if st.2 = [] then st.1 else st.1 ++ [st.2], []) from by unfold stepW; rw [if_pos (h c List.mem_cons_self)],
      fold_sp (d :: r) _ (List.cons_ne_nil _ _) fun e he => h e (List.mem_cons_of_mem _ he)]
    simp
theorem runs_app (a b : List Nat) : runs (a ++ b) = b.foldl stepW (runs a) := List.foldl_append
theorem fold_all {p : Nat → Prop} : ∀ (l : List Nat) (st : List (List Nat) × List Nat), (∀ c ∈ l, p c) → (∀ w ∈ st.1, w ≠ [] ∧ ∀ c ∈ w, p c) → (∀ c ∈ st.2, p c) →
    (∀ w ∈ (l.foldl stepW st).1, w ≠ [] ∧ ∀ c ∈ w, p c) ∧ ∀ c ∈ (l.foldl stepW st).2, p c
  | [], _, _, h1, h2 => ⟨h1, h2⟩
  | c :: r, st, h, h1, h2 => by
    rw [List.foldl_cons]
    refine fold_all r _ (fun d hd => h d (List.mem_cons_of_mem _ hd)) ?_ ?_
    · unfold stepW
      split
      · split
        · exact h1
        · intro w hw
          rcases List.mem_append.mp hw with hw | hw
          · exact h1 w hw
          · rw [List.mem_singleton.mp hw]; exact ⟨by assumption, h2⟩
      · exact h1
    · unfold stepW
      split
      · intro d hd; cases hd
      · intro d hd
        rcases List.mem_append.mp hd with hd | hd
        · exact h2 d hd
        · rw [List.mem_singleton.mp hd]; exact h c List.mem_cons_self
theorem words0_all {p : Nat → Prop} (l : List Nat) (h : ∀ c ∈ l, p c) : ∀ w ∈ words0 l, w ≠ [] ∧ ∀ c ∈ w, p c := by
  have := fold_all l ([], []) h (fun _ hw => nomatch hw) (fun _ hc => nomatch hc)
  unfold words0
  split
  · exact this.1
  · intro w hw
    rcases List.mem_append.mp hw with hw | hw
    · exact this.1 w hw
    · rw [List.mem_singleton.mp hw]; exact ⟨by assumption, this.2⟩
theorem fold_fine : ∀ (l : List Nat) (st : List (List Nat) × List Nat), (∀ w ∈ st.1, Fine w) → (∀ c ∈ st.2, spC c = false) →
    (∀ w ∈ (l.foldl stepW st).1, Fine w) ∧ ∀ c ∈ (l.foldl stepW st).2, spC c = false
  | [], _, h1, h2 => ⟨h1, h2⟩
  | c :: r, st, h1, h2 => by
    rw [List.foldl_cons]
    refine fold_fine r _ ?_ ?_
    · unfold stepW
      split
      · split
        · exact h1
        · intro w hw
          rcases List.mem_append.mp hw with hw | hw
          · exact h1 w hw
          · rw [List.mem_singleton.mp hw]; exact ⟨by assumption, h2⟩
      · exact h1
    · unfold stepW
      split
      · intro d hd; cases hd
      · intro d hd
        rcases List.mem_append.mp hd with hd | hd
        · exact h2 d hd
        · rw [List.mem_singleton.mp hd]; exact Bool.eq_false_iff.mpr (by assumption)
theorem words0_fine (l : List Nat) : ∀ w ∈ words0 l, Fine w := by
  have := fold_fine l ([], []) (fun _ hw => nomatch hw) (fun _ hc => nomatch hc)
  unfold words0
  split
  · exact this.1
  · intro w hw
    rcases List.mem_append.mp hw with hw | hw
    · exact this.1 w hw
    · rw [List.mem_singleton.mp hw]; exact ⟨by assumption, this.2⟩
def massW (st : List (List Nat) × List Nat) : Nat := (st.1.map (·.length)).sum + st.1.length + st.2.length
theorem fold_mass : ∀ (l : List Nat) (st : List (List Nat) × List Nat), massW (l.foldl stepW st) ≤ massW st + l.length
  | [], st => by simp
  | c :: r, st => by
    rw [List.foldl_cons]
    refine Nat.le_trans (fold_mass r _) ?_
    have : massW (stepW st c) ≤ massW st + 1 := by
      unfold stepW massW
      split
      · split
        · simp; omega
        · simp only [List.map_append, List.sum_append, List.map_cons, List.map_nil, List.sum_cons, List.sum_nil, List.length_append, List.length_cons, List.length_nil]; omega
      · simp only [List.length_append, List.length_cons, List.length_nil]; omega
    simp only [List.length_cons]; omega
theorem light_split {x : Str} (h : x.length ≤ 1000) : Light (splitL x) := by
  have hm := fold_mass x.cps.toList ([], [])
  have h0 : massW ([], []) = 0 := rfl
  have hlen : x.cps.toList.length = x.length := len_list x
  have hw : ((words0 x.cps.toList).map (·.length)).sum + (words0 x.cps.toList).length ≤ x.length + 1 := by
    have hm' : massW (runs x.cps.toList) ≤ x.length := by unfold runs; omega
    unfold massW at hm'
    unfold words0
    split
    · omega
    · simp only [List.map_append, List.sum_append, List.map_cons, List.map_nil, List.sum_cons, List.sum_nil, List.length_append, List.length_cons, List.length_nil]; omega
  unfold Light splitL
  rw [List.map_map, List.length_map]
  have : (fun y : Str => y.length) ∘ mkS = fun w : List Nat => w.length := by funext w; simp [mkS, PySem.Str.length]
  rw [this]; omega

/-- the words with a space between -/
def joinN : List (List Nat) → List Nat
  | [] => []
  | [w] => w
  | w :: r => w ++ 32 :: joinN r
theorem fold_join : ∀ (ws : List (List Nat)) (acc : List (List Nat)), (∀ w ∈ ws, Fine w) →
    (if ((joinN ws).foldl stepW (acc, [])).2 = [] then ((joinN ws).foldl stepW (acc, [])).1 else ((joinN ws).foldl stepW (acc, [])).1 ++ [((joinN ws).foldl stepW (acc, [])).2]) = acc ++ ws
  | [], acc, _ => by simp [joinN]
  | [w], acc, h => by
    have hw := h w List.mem_cons_self
    rw [show joinN [w] = w from rfl, fold_word w _ hw.2]
    simp [hw.1]
  | w :: v :: r, acc, h => by
    have hw := h w List.mem_cons_self
    have e : (joinN (w :: v :: r)).foldl stepW (acc, []) = (joinN (v :: r)).foldl stepW (acc ++ [w], []) := by
      rw [show joinN (w :: v :: r) = w ++ 32 :: joinN (v :: r) from rfl, List.foldl_append, fold_word w _ hw.2, List.foldl_cons]
      congr 1
      simp [stepW, spC, hw.1]
    rw [e, fold_join (v :: r) (acc ++ [w]) fun u hu => h u (List.mem_cons_of_mem _ hu)]
    simp
theorem words0_join (ws : List (List Nat)) (h : ∀ w ∈ ws, Fine w) : words0 (joinN ws) = ws := by
  have := fold_join ws [] h
  rw [List.nil_append] at this
  exact this
abbrev joinS (ys : List Str) : Str := Txt.join (Str.ofString " ") ys
theorem sp_one : (Str.ofString " ").cps.toList = [32] := by decide
theorem join_cps : ∀ ys : List Str, (joinS ys).cps.toList = joinN (ys.map fun y => y.cps.toList)
  | ys => by
    show (Builtin.Str.glued (Str.ofString " ") ys).cps.toList = _
    rw [StrLaws.glued_eq_join]
    exact go ys
where go : ∀ ys : List Str, (Str.join (Str.ofString " ") ys).cps.toList = joinN (ys.map fun y => y.cps.toList)
  | [] => rfl
  | [y] => rfl
  | y :: z :: r => by
    have ih := go (z :: r)
    rw [show Str.join (Str.ofString " ") (y :: z :: r) = y ++ Str.ofString " " ++ Str.join (Str.ofString " ") (z :: r) from rfl, Str.cps_append, Str.cps_append, Array.toList_append, Array.toList_append, ih, sp_one]
    simp [joinN]
theorem map_mk (x : Str) : (splitL x).map (fun y => y.cps.toList) = words0 x.cps.toList := by
  unfold splitL
  rw [List.map_map]
  have : (fun y : Str => y.cps.toList) ∘ mkS = id := by funext w; simp [mkS]
  rw [this, List.map_id]
theorem split_join (x : Str) : splitL (joinS (splitL x)) = splitL x := by
  have e : (joinS (splitL x)).cps.toList = joinN (words0 x.cps.toList) := by rw [join_cps, map_mk]
  show (words0 (joinS (splitL x)).cps.toList).map mkS = _
  rw [e, words0_join _ (words0_fine _)]; rfl
def told (kind x : Str) : Str := if kind = Str.ofString "CDATA" then x else joinS (splitL x)
theorem told_told (kind x : Str) : told kind (told kind x) = told kind x := by
  unfold told
  split
  · rfl
  · rw [split_join]

def keysT : List Str := wtab.map (·.1)
theorem key_facts : ∀ x ∈ keysT, (∀ c ∈ x.cps.toList, spC c = false ∧ c < 128) ∧ x.length ≤ 5 ∧ nmtokC x = (tabC x).2 ∧ nameC x = (tabC x).1 := by decide +kernel
theorem key_empty : Str.ofString "" ∈ keysT := by decide
def Good (x : Str) : Prop := nmtokC x = (tabC x).2 ∧ nameC x = (tabC x).1
theorem good_key {x : Str} (h : x ∈ keysT) : Good x := (key_facts x h).2.2
theorem lookup_none : ∀ (l : List (Str × Bool × Bool)) (x : Str), x ∉ l.map (·.1) → l.lookup x = none
  | [], _, _ => rfl
  | (k, b) :: r, x, h => by
    have h1 : x ≠ k := fun e => h (by simp [e])
    have h2 : x ∉ r.map (·.1) := fun hm => h (List.mem_cons_of_mem _ hm)
    rw [List.lookup, beq_eq_false_iff_ne.mpr h1]
    exact lookup_none r x h2
theorem good_space {x : Str} (h : 32 ∈ x.cps.toList) : Good x := by
  have hn : x ∉ keysT := fun hm => by
    have := ((key_facts x hm).1 32 h).1
    exact absurd this (by decide)
  have ht : tabC x = (false, false) := by unfold tabC; rw [lookup_none wtab x hn]; rfl
  have hf : nmtokC x = false := by
    unfold nmtokC
    rw [List.all_eq_false.mpr ⟨32, h, by decide⟩]; rfl
  unfold Good
  rw [ht, hf]
  refine ⟨rfl, ?_⟩
  unfold nameC; rw [hf, Bool.and_false]
theorem join_good {ys : List Str} (h : ∀ w ∈ ys, w ∈ keysT) : Good (joinS ys) := by
  cases ys with
  | nil => exact good_key key_empty
  | cons y r =>
    cases r with
    | nil =>
      have : joinS [y] = y := PySem.Str.ext' rfl
      rw [this]; exact good_key (h y List.mem_cons_self)
    | cons z r =>
      refine good_space ?_
      rw [join_cps]
      simp [joinN]
theorem join_asc {ys : List Str} (h : ∀ w ∈ ys, Asc w) : Asc (joinS ys) := by
  unfold Asc
  rw [join_cps]
  induction ys with
  | nil => intro c hc; cases hc
  | cons y r ih =>
    cases r with
    | nil => exact h y List.mem_cons_self
    | cons z r =>
      intro c hc
      rw [show joinN ((y :: z :: r).map fun y => y.cps.toList) = y.cps.toList ++ 32 :: joinN ((z :: r).map fun y => y.cps.toList) from rfl] at hc
      rcases List.mem_append.mp hc with hc | hc
      · exact h y List.mem_cons_self c hc
      · rcases List.mem_cons.mp hc with rfl | hc
        · decide
        · exact ih (fun w hw => h w (List.mem_cons_of_mem _ hw)) c hc
theorem split_asc {x : Str} (h : Asc x) : ∀ w ∈ splitL x, Asc w := by
  intro w hw c hc
  obtain ⟨u, hu, rfl⟩ := List.mem_map.mp hw
  exact (words0_all _ h u hu).2 c (by simpa [mkS] using hc)

theorem joinN_len : ∀ ws : List (List Nat), (joinN ws).length ≤ (ws.map (·.length)).sum + ws.length
  | [] => Nat.le_refl _
  | [w] => by simp [joinN]
  | w :: v :: r => by
    have ih := joinN_len (v :: r)
    rw [show joinN (w :: v :: r) = w ++ 32 :: joinN (v :: r) from rfl]
    simp only [List.length_append, List.length_cons, List.map_cons, List.sum_cons] at *
    omega
theorem join_le {ys : List Str} (h : Light ys) : (joinS ys).length ≤ 20000 := by
  unfold Light at h
  have := joinN_len (ys.map fun y => y.cps.toList)
  rw [← join_cps, List.map_map, List.length_map, len_list] at this
  have e : ((fun w : List Nat => w.length) ∘ fun y : Str => y.cps.toList) = fun y : Str => y.length := by funext y; exact len_list y
  rw [e] at this
  omega
theorem mem_sum : ∀ {l : List Nat} {a : Nat}, a ∈ l → a ≤ l.sum
  | b :: r, a, h => by
    rw [List.sum_cons]
    rcases List.mem_cons.mp h with rfl | h
    · omega
    · have := mem_sum h; omega
theorem light_mem : ∀ {ys : List Str}, Light ys → ∀ y ∈ ys, y.length ≤ 20000 := by
  intro ys h y hy
  have : y.length ≤ (ys.map (·.length)).sum := mem_sum (List.mem_map_of_mem (f := fun y : Str => y.length) hy)
  unfold Light at h
  omega
theorem split_le {x : Str} (h : x.length ≤ 1000) : ∀ y ∈ splitL x, y.length ≤ 20000 := light_mem (light_split h)
theorem wordsOf_le {k x : Str} (h : x.length ≤ 1000) : ∀ y ∈ (if inL [Str.ofString "IDREFS", Str.ofString "ENTITIES", Str.ofString "NMTOKENS"] k = true then splitL x else [x]), y.length ≤ 20000 := by
  split
  · exact split_le h
  · intro y hy; rw [List.mem_singleton.mp hy]; omega

theorem words10_19 : True := by
  k_with "MINE light" => first | exact Light.le (light_split (by assumption)) | exact Light.le (by assumption)
  k_with "MINE seq" => first | assumption | exact News.isList (by k_asm) (by k_mem) | exact News.isTup (by k_asm) (by k_mem)
  k_with "call builtin:str.join" => (k_here; (with_reducible show wpAny _ _ (call (Value.builtin _) [Value.str _ _, Value.ref _]) _ _ _); k_dflt (first | (refine' join_listW ?k1 ?k2 ?k3 ?k4 ?_; (case k1 => k_extra "MINE lst"); (case k2 => assumption); (case k3 => decide); (case k4 => k_extra "MINE light")) | (refine' join_tupleW ?k1 ?k2 ?k3 ?k4 ?_; (case k1 => exact News.isTup (by k_asm) (by k_mem)); (case k2 => assumption); (case k3 => decide); (case k4 => k_extra "MINE light"))); intro tj9 kj9; (try (have hj9 := join_le (by first | assumption | exact light_split (by assumption)))))
  trivial

theorem coll_does (e : Wd) (x : Str) (t : Tok) (hx : x.length ≤ 1000) :
    Does e 94 340 250 [.str x t] [] (fun v n' => ∃ n'', n' = n'' ++ [] ∧ n'' = [] ∧ ∃ t', v = .str (joinS (splitL x)) t') := by
  k_dflt (refine' enter (binds := [(Str.ofString "text", .str x t)]) ?k6 ?k7 ?k8 ?k9 ?kB ?_ ?c5 ?c2 ?c3 ?c4; (case k6 => k_is); (case k7 => k_is); (case k8 => decide); (case k9 => intro s; exact BindsTo.of_eq rfl); (case kB => exact locs rfl); (case c5 => decide); (case c2 => exact rfl); (case c3 => exact rfl); (case c4 => exact rfl); k_whole; intro base g envs s0 L' h' tk' B' X' T' F' N' l1; (try k_lt l1); (try dsimp only [List.reverse, List.reverseAux] at F'); (try dsimp only); (try k_fold))
  k_steps
  ((try dsimp only); refine' Back.intro [] ?Fq15 (fun _ hp => nomatch hp) ?_; (case Fq15 => k_asm))
  exact ⟨[], rfl, rfl, _, rfl⟩
theorem words10_20 : True := by
  k_with "call ref" => (k_here; (with_reducible show wpAny _ _ (call (Value.ref 94) _) _ _ _); k_dflt (refine' use0 (coll_does _ _ _ ?hx) ?B ?F ?X ?T ?N ?hA ?hh ?hg ?hf ?hke ?hD ?hU ?hn ?_; (case B => k_asm); (case F => k_asm); (case X => k_asm); (case T => k_asm); (case N => k_asm); (case hA => exact rfl); (case hh => exact rfl); (case hg => exact rfl); (case hf => exact rfl); (case hke => exact rfl); (case hD => exact Nat.le_of_ble_eq_true rfl); (case hU => exact Nat.le_of_ble_eq_true rfl); (case hx => (first | assumption | omega)); (case hn => k_extra "MINE nil"); k_whole); intro v9 h9 tk9 n9 F9 N9 ap9 p9; obtain ⟨hn9, t9, e9⟩ := p9; subst hn9; subst e9; clear ap9; (try simp only [List.nil_append] at N9); (try k_sweep))
  trivial

theorem norm_does (e : Wd) (kind x : Str) (tk t : Tok) (hx : x.length ≤ 1000) :
    Does e 137 330 200 [.str kind tk, .str x t] [] (fun v n' => ∃ n'', n' = n'' ++ [] ∧ n'' = [] ∧ ∃ t', v = .str (told kind x) t') := by
  k_dflt (refine' enter (binds := [(Str.ofString "kind", .str kind tk), (Str.ofString "value", .str x t)]) ?k6 ?k7 ?k8 ?k9 ?kB ?_ ?c5 ?c2 ?c3 ?c4; (case k6 => k_is); (case k7 => k_is); (case k8 => decide); (case k9 => intro s; exact BindsTo.of_eq rfl); (case kB => exact locs rfl); (case c5 => decide); (case c2 => exact rfl); (case c3 => exact rfl); (case c4 => exact rfl); k_whole; intro base g envs s0 L' h' tk' B' X' T' F' N' l1; (try k_lt l1); (try dsimp only [List.reverse, List.reverseAux] at F'); (try dsimp only); (try k_fold))
  k_steps
  all_goals ((try dsimp only); refine' Back.intro [] ?Fq16 (fun _ hp => nomatch hp) ?_; (case Fq16 => k_asm))
  all_goals refine ⟨[], rfl, rfl, ?_⟩
  · refine ⟨t, ?_⟩
    unfold told; rw [if_pos (eq_of_beq (by assumption))]
  · refine ⟨t9, ?_⟩
    unfold told; rw [if_neg (ne_of_beq_false (by assumption))]
theorem words10_21 : True := by
  k_with "call ref" => (k_here; (with_reducible show wpAny _ _ (call (Value.ref 137) _) _ _ _); k_dflt (refine' use0 (norm_does _ _ _ _ _ ?hx) ?B ?F ?X ?T ?N ?hA ?hh ?hg ?hf ?hke ?hD ?hU ?hn ?_; (case B => k_asm); (case F => k_asm); (case X => k_asm); (case T => k_asm); (case N => k_asm); (case hA => exact rfl); (case hh => exact rfl); (case hg => exact rfl); (case hf => exact rfl); (case hke => exact rfl); (case hD => exact Nat.le_of_ble_eq_true rfl); (case hU => exact Nat.le_of_ble_eq_true rfl); (case hx => (first | assumption | omega)); (case hn => k_extra "MINE nil"); k_whole); intro v9 h9 tk9 n9 F9 N9 ap9 p9; obtain ⟨hn9, t9, e9⟩ := p9; subst hn9; subst e9; clear ap9; (try simp only [List.nil_append] at N9); (try k_sweep))
  trivial

abbrev listK (kind : Str) : Bool := inL [Str.ofString "IDREFS", Str.ofString "ENTITIES", Str.ofString "NMTOKENS"] kind
def wordsOf (kind x : Str) : List Str := if listK kind = true then splitL x else [x]
theorem inK {K : Frag} {prog : Program} {w : World} {A : Around} {E : Value → Shared → Prop} {s : Shared} {Q : Value → Shared → Prop} {g : Heap} {L b : Addr} {m : Str → Option Value} {x : Str} {t : Tok} {ys : List Str} {items : Array Value} {n : Nat} {od : Option Addr} {osl : Array (Option Value)}
    (X : K.In g) (F : Fr g L s.heap m) (e : K.lookup b = some ⟨.type "tuple", od, .seq items n, osl⟩) (hi : StrsAre items.toList ys) (h : Q (.bool (inL ys x)) s) : wpAny (model prog w) A (compareOp .In (.str x t) (.ref b)) Q E s :=
  in_tuple_strs ⟨_, X.keeps F.keep b _ e, rfl, _, rfl⟩ hi h
theorem words10_22 : True := by
  k_with "compareOp In str ref" => (k_here; (with_reducible show wpAny _ _ (compareOp _ (Value.str _ _) (Value.ref 95)) _ _ _); k_dflt (refine' inK (ys := [Str.ofString "IDREFS", Str.ofString "ENTITIES", Str.ofString "NMTOKENS"]) ?X ?F ?e ?hi ?_; (case X => k_asm); (case F => k_asm); (case e => k_is); (case hi => exact .cons _ _ (.cons _ _ (.cons _ _ .nil)))))
  trivial

theorem wordsof_does (e : Wd) (kind x : Str) (tk t : Tok) (hx : x.length ≤ 1000) :
    Does e 144 330 200 [.str kind tk, .str x t] [] (fun v n' => ∃ n'', n' = n'' ++ [] ∧ ∃ (a : Nat) (vs : List Value) (ep : Nat), v = .ref a ∧ n'' = [(a, W.listOf vs.toArray ep)] ∧ StrsAre vs (wordsOf kind x)) := by
  k_dflt (refine' enter (binds := [(Str.ofString "kind", .str kind tk), (Str.ofString "value", .str x t)]) ?k6 ?k7 ?k8 ?k9 ?kB ?_ ?c5 ?c2 ?c3 ?c4; (case k6 => k_is); (case k7 => k_is); (case k8 => decide); (case k9 => intro s; exact BindsTo.of_eq rfl); (case kB => exact locs rfl); (case c5 => decide); (case c2 => exact rfl); (case c3 => exact rfl); (case c4 => exact rfl); k_whole; intro base g envs s0 L' h' tk' B' X' T' F' N' l1; (try k_lt l1); (try dsimp only [List.reverse, List.reverseAux] at F'); (try dsimp only); (try k_fold))
  k_steps
  all_goals (first | (dsimp only; refine' Back.intro _ ?Fq14 ?Nq14 ?_; (case Fq14 => k_asm); (case Nq14 => k_asm)) | (refine' Back.intro _ ?Fq14 ?Nq14 ?_; (case Fq14 => k_asm); (case Nq14 => k_asm)))
  · refine ⟨_, (List.append_nil _).symm, _, _, _, rfl, rfl, ?_⟩
    unfold wordsOf; rw [if_pos (by assumption)]; assumption
  · refine ⟨_, (List.append_nil _).symm, _, [.str x t], _, rfl, rfl, ?_⟩
    unfold wordsOf; rw [if_neg (by rw [show listK kind = false from by assumption]; decide)]; exact .cons _ _ .nil
theorem words10_23 : True := by
  k_with "call ref" => (k_here; (with_reducible show wpAny _ _ (call (Value.ref 144) _) _ _ _); k_dflt (refine' use0 (wordsof_does _ _ _ _ _ ?hx) ?B ?F ?X ?T ?N ?hA ?hh ?hg ?hf ?hke ?hD ?hU ?hn ?_; (case B => k_asm); (case F => k_asm); (case X => k_asm); (case T => k_asm); (case N => k_asm); (case hA => exact rfl); (case hh => exact rfl); (case hg => exact rfl); (case hf => exact rfl); (case hke => exact rfl); (case hD => exact Nat.le_of_ble_eq_true rfl); (case hU => exact Nat.le_of_ble_eq_true rfl); (case hx => (first | assumption | omega)); (case hn => k_extra "MINE nil"); k_whole); intro v9 h9 tk9 n9 F9 N9 ap9 p9; obtain ⟨a9, vs9, ep9, e9, hn9, hv9⟩ := p9; subst hn9; subst e9; (try simp only [List.cons_append, List.nil_append] at N9); (try k_sweep))
  trivial


section
variable {prog : Program} {w : World} {A : Around} {h₀ : Heap} {L : Addr} {m : Str → Option Value} {env : Env} {ct elt : PySem.Expr} {x : Str} {scope : Scope} {cl : List (Str × Addr)} {s : Shared} {S : Led → Prop} {P : Nat → Value → Prop} {Fin : List Value → Led → Prop}

/-- the end of one turn of a comprehension: the ledger is as it was -/
def LeafEnd (h₀ : Heap) (L : Addr) (m : Str → Option Value) (s₁ : Shared) (all : Led) (J : Value → Prop) (y : Value) (s₂ : Shared) : Prop :=
  ∃ h' tk, s₂ = { s₁ with heap := h', toks := tk } ∧ Fr h₀ L h' m ∧ News h₀ L h' all ∧ J y
theorem LeafEnd.intro {s₁ : Shared} {all all' : Led} {J : Value → Prop} {y : Value} {h' : Heap} {tk : Nat} (F : Fr h₀ L h' m) (N : News h₀ L h' all') (hs : ∀ p ∈ all, p ∈ all') (j : J y) :
    LeafEnd h₀ L m s₁ all J y { s₁ with heap := h', toks := tk } := ⟨h', tk, rfl, F, KStt.news_of N hs, j⟩

/-- a comprehension with a test, turn by turn, of any length: an invariant of the index and of what is gathered -/
theorem restT_gen (J : Nat → List Value → Prop) {news : Led} (hS : S news) (n : Nat) (fin : ∀ ys, J n ys → Fin ys news)
    (step : ∀ i v ys I oI C oC D m₂ h tk (E' : Value → Shared → Prop), i < n → P i v → J i ys → LCg.NsObj oC m₂ → m₂ x = some v → Fr h₀ L h m → News h₀ L h ((I, oI) :: (C, oC) :: (D, LCg.lst ys) :: news) →
      LCg.Off3 I C D news → ((@Ne Nat I C) ∧ (@Ne Nat I D) ∧ (@Ne Nat C D)) →
      wpAny (model prog w) A (isTrue ct (compEnvC scope cl C env) (eval ct (compEnvC scope cl C env))) (fun ok s' => if ok = true then
        wpAny (model prog w) A (eval elt (compEnvC scope cl C env)) (LeafEnd h₀ L m { s with heap := h, toks := tk } ((I, oI) :: (C, oC) :: (D, LCg.lst ys) :: news) (fun y => J (i + 1) (ys ++ [y]))) E' s'
        else LeafEnd h₀ L m { s with heap := h, toks := tk } ((I, oI) :: (C, oC) :: (D, LCg.lst ys) :: news) (fun _ => J (i + 1) ys) Value.none s') E' { s with heap := h, toks := tk }) :
    ∀ k i ys, i + k = n → J i ys → LCt.CompRestT prog w A h₀ L m env ct elt x scope cl s S P Fin k i ys news
  | 0, i, ys, hk, hJ => fin ys ((show i = n by omega) ▸ hJ)
  | k + 1, i, ys, hk, hJ => by
    refine LCt.CompRestT.succ fun v I oI C oC D m₂ h tk E' hP hoC hx F N off hne => ?_
    refine wpAny_mono (step i v ys I oI C oC D m₂ h tk E' (by omega) hP hJ hoC hx F N off hne) (fun ok s' h' => ?_) fun _ _ e => e
    cases ok with
    | true =>
      simp only [if_true] at h' ⊢
      refine wpAny_mono h' (fun y s₂ h₂ => ?_) fun _ _ e => e
      obtain ⟨h₃, tk₃, rfl, F₃, N₃, j⟩ := h₂
      exact ⟨h₃, tk₃, news, rfl, F₃, N₃, off, hS, restT_gen J hS n fin step k (i + 1) _ (by omega) j⟩
    | false =>
      simp only [Bool.false_eq_true, if_false] at h' ⊢
      obtain ⟨h₃, tk₃, rfl, F₃, N₃, j⟩ := h'
      exact ⟨h₃, tk₃, news, rfl, F₃, N₃, off, hS, restT_gen J hS n fin step k (i + 1) _ (by omega) j⟩
end

/-- the texts that pass the test -/
def FiltJ (p : Str → Bool) (ss : List Str) (i : Nat) (ys : List Value) : Prop := StrsAre ys ((ss.take i).filter p)
theorem FiltJ.yes {p : Str → Bool} {ss : List Str} {i : Nat} {ys : List Value} {y : Str} {t : Tok} (h : FiltJ p ss i ys) (hi : ss[i]? = some y) (hp : p y = true) : FiltJ p ss (i + 1) (ys ++ [.str y t]) := by
  unfold FiltJ
  rw [List.take_add_one, hi, List.filter_append]
  show StrsAre _ (_ ++ List.filter p [y])
  rw [show List.filter p [y] = [y] from by simp [hp]]
  exact StrsAre.append' h (.cons _ _ .nil)
theorem FiltJ.no {p : Str → Bool} {ss : List Str} {i : Nat} {ys : List Value} {y : Str} (h : FiltJ p ss i ys) (hi : ss[i]? = some y) (hp : p y = false) : FiltJ p ss (i + 1) ys := by
  unfold FiltJ
  rw [List.take_add_one, hi, List.filter_append]
  show StrsAre _ (_ ++ List.filter p [y])
  rw [show List.filter p [y] = [] from by simp [hp], List.append_nil]
  exact h
theorem FiltJ.whole {p : Str → Bool} {ss : List Str} {ys : List Value} (h : FiltJ p ss ss.length ys) : StrsAre ys (ss.filter p) := by
  unfold FiltJ at h
  rwa [List.take_length] at h
theorem strs_get : ∀ {vs : List Value} {ss : List Str}, StrsAre vs ss → ∀ {i : Nat} {v : Value}, vs[i]? = some v → ∃ y t, ss[i]? = some y ∧ v = .str y t
  | _, _, .nil, i, v, h => by simp at h
  | _, _, .cons y t _, 0, v, h => ⟨y, t, by simp, by simpa using h.symm⟩
  | _, _, .cons _ _ r, i + 1, v, h => by simpa using strs_get r (by simpa using h)
theorem strs_len : ∀ {vs : List Value} {ss : List Str}, StrsAre vs ss → vs.length = ss.length
  | _, _, .nil => rfl
  | _, _, .cons _ _ r => by simp [strs_len r]
theorem strs_listOf {ys : List Value} : LCg.lst ys = W.listOf ys.toArray ys.length := rfl

section
variable {prog : Program} {w : World} {A : Around} {h₀ : Heap} {L : Addr} {m : Str → Option Value} {env : Env} {ct elt : PySem.Expr} {x : Str} {scope : Scope} {cl : List (Str × Addr)} {s : Shared} {news : Led} {ax : Addr} {vs : List Value} {ss : List Str} {k : Nat}
theorem src_filt {Fin : Shared → List Value → Led → Prop} (p : Str → Bool) (hh : A.handled = none) (F : Fr h₀ L s.heap m) (N : News h₀ L s.heap news) (hm : (ax, W.listOf vs.toArray k) ∈ news) (hs : StrsAre vs ss) (hl : vs.length ≤ 3000)
    (fin : ∀ (g : Heap) (ys : List Value), StrsAre ys (ss.filter p) → Fin { s with heap := g } ys news)
    (step : ∀ (g : Heap) i y ty ys I oI C oC D m₂ h tk (E' : Value → Shared → Prop), ss[i]? = some y → y ∈ ss → FiltJ p ss i ys → LCg.NsObj oC m₂ → m₂ x = some (.str y ty) → Fr h₀ L h m → News h₀ L h ((I, oI) :: (C, oC) :: (D, LCg.lst ys) :: news) →
      LCg.Off3 I C D news → ((@Ne Nat I C) ∧ (@Ne Nat I D) ∧ (@Ne Nat C D)) →
      wpAny (model prog w) A (isTrue ct (compEnvC scope cl C env) (eval ct (compEnvC scope cl C env))) (fun ok s' => if ok = true then
        wpAny (model prog w) A (eval elt (compEnvC scope cl C env)) (LeafEnd h₀ L m { s with heap := h, toks := tk } ((I, oI) :: (C, oC) :: (D, LCg.lst ys) :: news) (fun z => FiltJ p ss (i + 1) (ys ++ [z]))) E' s'
        else LeafEnd h₀ L m { s with heap := h, toks := tk } ((I, oI) :: (C, oC) :: (D, LCg.lst ys) :: news) (fun _ => FiltJ p ss (i + 1) ys) Value.none s') E' { s with heap := h, toks := tk }) :
    LCt.CompSrcT prog w A h₀ L m env ct elt x scope cl Fin (.ref ax) s := by
  have hlen := strs_len hs
  refine LCt.CompSrcT.ledger hh F N hm (by rw [PySem.sizeLine_eq, List.size_toArray]; omega)
    (fun gg => restT_gen (FiltJ p ss) (.inr ⟨_, hm, rfl, _, rfl⟩) ss.length (fun ys hJ => fin gg ys hJ.whole) ?_ _ 0 [] (by rw [Nat.zero_add, List.size_toArray, hlen]) .nil)
  intro i v ys I oI C oC D m₂ h3 tk3 E' hi hP hJ hoC hxx F3 N3 off hne
  obtain ⟨y, ty, hy, rfl⟩ := strs_get hs (by simpa using hP)
  exact step gg i y ty ys I oI C oC D m₂ h3 tk3 E' hy (List.mem_of_getElem? hy) hJ hoC hxx F3 N3 off hne
end

/-- comparing lists of texts -/
theorem strs_carried : ∀ {vs : List Value} {ss : List Str}, StrsAre vs ss → CarriedAll vs (ss.map PyData.str)
  | _, _, .nil => .nil
  | _, _, .cons _ t r => .cons (.str _ t) (strs_carried r)
theorem eqv_strs : ∀ ss us : List Str, PyData.eqvAll (ss.map PyData.str) (us.map PyData.str) = decide (ss = us)
  | [], [] => by simp [PyData.eqvAll]
  | [], _ :: _ => by simp [PyData.eqvAll]
  | _ :: _, [] => by simp [PyData.eqvAll]
  | a :: r, b :: t => by
    simp only [List.map_cons, PyData.eqvAll, PyData.eqv, eqv_strs r t]
    by_cases h : a = b <;> by_cases h' : r = t <;> simp [h, h']
theorem strOk_asc {x : Str} (h : Asc x) : PyData.strOk x = true := by
  unfold PyData.strOk
  rw [Array.all_eq_true]
  intro i hi
  have := h x.cps[i] (by simp)
  exact decide_eq_true (by omega)
theorem strs_lay : ∀ {ss : List Str}, (∀ x ∈ ss, Asc x) → PyData.canLayAll0 (ss.map PyData.str) = true ∧ PyData.depthAll (ss.map PyData.str) = 0
  | [], _ => ⟨rfl, rfl⟩
  | x :: r, h => by
    have ih := strs_lay (ss := r) fun y hy => h y (List.mem_cons_of_mem _ hy)
    have hx := strOk_asc (h x List.mem_cons_self)
    exact ⟨by simp [PyData.canLayAll0, PyData.canLay0, ih.1, hx], by simp [PyData.depthAll, PyData.depth, ih.2]⟩
theorem strs_shaped {ss : List Str} (h : ∀ x ∈ ss, Asc x) : SeqAt.shaped (.list (ss.map PyData.str)) = true := by
  have := strs_lay h
  simp [SeqAt.shaped, PyData.canLay0, PyData.depth, this.1, this.2]
section
variable {prog : Program} {w : World} {A : Around} {E : Value → Shared → Prop} {s : Shared} {a b : Addr} {xs ys : List Value} {ss us : List Str} {Q : Value → Shared → Prop}
theorem eq_strs (ha : s.heap.IsList a xs.toArray) (hb : s.heap.IsList b ys.toArray) (hi : StrsAre xs ss) (hj : StrsAre ys us) (h1 : ∀ x ∈ ss, Asc x) (h2 : ∀ x ∈ us, Asc x) (hu : A.units + 64 < cLine) (h : Q (.bool (decide (ss = us))) s) :
    wpAny (model prog w) A (compareOp .Eq (.ref a) (.ref b)) Q E s :=
  eq_dataH (reads_newData ha (strs_carried hi)) (reads_newData hb (strs_carried hj)) (strs_shaped h1) (strs_shaped h2) hu (by rw [PyData.eqv, eqv_strs]; exact h)
theorem ne_strs (ha : s.heap.IsList a xs.toArray) (hb : s.heap.IsList b ys.toArray) (hi : StrsAre xs ss) (hj : StrsAre ys us) (h1 : ∀ x ∈ ss, Asc x) (h2 : ∀ x ∈ us, Asc x) (hu : A.units + 64 < cLine) (h : Q (.bool (!decide (ss = us))) s) :
    wpAny (model prog w) A (compareOp .NotEq (.ref a) (.ref b)) Q E s :=
  ne_dataH (reads_newData ha (strs_carried hi)) (reads_newData hb (strs_carried hj)) (strs_shaped h1) (strs_shaped h2) hu (by rw [PyData.eqv, eqv_strs]; exact h)
theorem item_first {value slice : PySem.Expr} {u : Tok} (hl : s.heap.IsList a xs.toArray) (hs : StrsAre xs ss) (hne : decide (ss = []) = false) (h : ∀ z r t, ss = z :: r → Q (.str z t) s)
    (he : subscripted slice false (.ref a) (.int 0 u) = operate [.ref a, .int 0 u] (getItem (.ref a) (.int 0 u)) := by with_unfolding_all rfl) (hg : ∀ r, letTemporaryGo value (.ref a) r = pure () := by intro _; with_unfolding_all rfl) :
    wpAny (model prog w) A (subscriptTail value slice (.ref a) (.int 0 u)) Q E s := by
  cases hs with
  | nil => simp at hne
  | cons z t r => exact PyProof.Rows.item_listL hl (by decide) (by decide) rfl (h z _ t rfl) he hg
end

/-- the end of a statement whose rest is walked once -/
def CutEnd (h₀ : Heap) (L : Addr) (m : Str → Option Value) (news : Led) (P : Prop) (s₁ s₂ : Shared) : Prop := P ∧ ∃ h' tk', s₂ = { s₁ with heap := h', toks := tk' } ∧ Fr h₀ L h' m ∧ News h₀ L h' news
theorem CutEnd.intro {h₀ : Heap} {L : Addr} {m : Str → Option Value} {news all : Led} {P : Prop} {s₁ : Shared} {h' : Heap} {tk : Nat} (F : Fr h₀ L h' m) (N : News h₀ L h' all) (hs : ∀ p ∈ news, p ∈ all) (hP : P) : CutEnd h₀ L m news P s₁ { s₁ with heap := h', toks := tk } :=
  ⟨hP, h', tk, rfl, F, KStt.news_of N hs⟩
theorem cutK {M : Model} {A : Around} {E : Value → Shared → Prop} {s : Shared} {env : Env} {h₀ : Heap} {L : Addr} {m : Str → Option Value} {news : Led} {st : Stmt} {rest : List Stmt} {Q : Flow → Shared → Prop} (P : Prop)
    (_F : Fr h₀ L s.heap m) (_N : News h₀ L s.heap news)
    (h1 : wpAny M A (exec st env) (fun f s' => match f with | .next => CutEnd h₀ L m news P s s' | f => Q f s') E s)
    (h2 : ∀ h' tk', P → Fr h₀ L h' m → News h₀ L h' news → wpAny M A (execs rest env) Q E { s with heap := h', toks := tk' }) : wpAny M A (execs (st :: rest) env) Q E s := by
  refine wpAny_execs_cons (wpAny_mono h1 (fun f s' hf => ?_) fun _ _ e => e)
  cases f with
  | next =>
    obtain ⟨p, h', tk', rfl, F', N'⟩ := hf
    exact h2 h' tk' p F' N'
  | ret v => exact hf
  | brk => exact hf
  | cont => exact hf

def stepP (st : List (List Nat) × List Nat) (c : Nat) : List (List Nat) × List Nat := if spC c = true then (st.1 ++ [st.2], []) else (st.1, st.2 ++ [c])
def LspInv (pre : List Int) (vs : List Value) (cur : Str) : Prop :=
  ∃ l : List Nat, pre = l.map Int.ofNat ∧ StrsAre vs ((l.foldl stepP ([], [])).1.map mkS) ∧ cur = mkS (l.foldl stepP ([], [])).2 ∧ vs.length ≤ pre.length ∧ cur.length ≤ pre.length
theorem codes_len {x : Str} {pre post : List Int} {n : Nat} (h : KStt.codes x = pre ++ (n : Int) :: post) : pre.length < x.length := by
  have := congrArg List.length h
  rw [KStt.codes_length] at this
  simp only [List.length_append, List.length_cons] at this
  omega
theorem setL_last (v x : Value) : ∀ vs : List Value, ki_setL (vs ++ [x]) vs.length v = some (vs ++ [v])
  | [] => rfl
  | y :: r => by
    show (match ki_setL (r ++ [x]) r.length v with | some q => some (y :: q) | none => none) = _
    rw [setL_last v x r]; rfl
theorem set_last {prog : Program} {w : World} {A : Around} {E : Value → Shared → Prop} {s : Shared} {h₀ : Heap} {L D : Addr} {m : Str → Option Value} {news news' : Led} {vs : List Value} {n : Nat} {t : Tok} {x v : Value} {Q : Unit → Shared → Prop}
    (F : Fr h₀ L s.heap m) (N : News h₀ L s.heap news) (U : Upd D (W.listOf (vs ++ [x]).toArray n) (W.listOf (vs ++ [v]).toArray n) news news') (h : ∀ h', Fr h₀ L h' m → News h₀ L h' news' → Q () { s with heap := h' }) :
    wpAny (model prog w) A (setItem (.ref D) (.int (-1) t) v) Q E s := by
  refine ki_setNeg (j := vs.length) (q := vs ++ [v]) F N (by decide) (by decide) ?_ (setL_last v x vs) U h
  rw [PySem.seqIndex_neg (by decide) (by simp; omega)]
  congr 1
  simp only [List.size_toArray, List.length_append, List.length_cons, List.length_nil]; omega
theorem get_last {prog : Program} {w : World} {A : Around} {E : Value → Shared → Prop} {s : Shared} {value slice : PySem.Expr} {l : Addr} {vs : List Value} {u : Tok} {x : Value} {Q : Value → Shared → Prop} (hl : s.heap.IsList l (vs ++ [x]).toArray) (h : Q x s)
    (hs : subscripted slice false (.ref l) (.int (-1) u) = operate [.ref l, .int (-1) u] (getItem (.ref l) (.int (-1) u)) := by with_unfolding_all rfl) (hg : ∀ r, letTemporaryGo value (.ref l) r = pure () := by intro _; with_unfolding_all rfl) :
    wpAny (model prog w) A (subscriptTail value slice (.ref l) (.int (-1) u)) Q E s := by
  refine subscriptTail_builtin hl.typeIs slot_list_getitem.lookup (wpAny_getItem_list_neg hl (by decide) (by simp; omega) (by decide) ?_ h) hs hg
  have : ((-1 : Int) + ((vs ++ [x]).toArray.size : Nat)).toNat = vs.length := by
    simp only [List.size_toArray, List.length_append, List.length_cons, List.length_nil]; omega
  rw [this]
  simp
theorem words12_24 : True := by
  k_with "subscriptTail Name UnaryOp ref int" => (k_here; k_dflt (refine' get_last ?l ?_; (case l => k_extra "MINE lst")))
  k_with "setItem ref int" => (k_here; (with_reducible show wpAny _ _ (setItem (Value.ref _) (Value.int _ _) (Value.str _ _)) _ _ _); k_dflt (refine' set_last ?F ?N ?U ?_; (case F => k_asm); (case N => k_asm); (case U => (refine Upd.head ?_; assumption)); k_whole; intro h' F' N'; (try k_sweep)))
  trivial

theorem lsp_lit : (Str.ofString " \t\u000d\n").cps.toList = [32, 9, 13, 10] := by decide
theorem lsp_ch {pre : List Int} {vs : List Value} {cur : Str} {n : Nat} (h : LspInv pre vs cur) (hs : spC n = false) : LspInv (pre ++ [(n : Int)]) vs (cur ++ PySem.Str.mk #[n]) := by
  obtain ⟨l, rfl, hvs, rfl, h1, h2⟩ := h
  have e : (l ++ [n]).foldl stepP ([], []) = ((l.foldl stepP ([], [])).1, (l.foldl stepP ([], [])).2 ++ [n]) := by
    rw [List.foldl_append]
    show stepP _ n = _
    unfold stepP; rw [if_neg (by rw [hs]; decide)]
  refine ⟨l ++ [n], by simp, ?_, ?_, ?_, ?_⟩
  · rw [e]; exact hvs
  · rw [e]; refine PySem.Str.ext' ?_; rw [PySem.Str.cps_append]; simp [mkS]
  · simp only [List.length_append, List.length_cons, List.length_nil]; omega
  · rw [PySem.Str.length_append]
    simp only [List.length_append, List.length_cons, List.length_nil] at *
    show _ + 1 ≤ _
    omega
theorem lsp_sp {pre : List Int} {vs : List Value} {cur : Str} {n : Nat} {t : Tok} (h : LspInv pre vs cur) (hs : spC n = true) : LspInv (pre ++ [(n : Int)]) (vs ++ [Value.str cur t]) (Str.ofString "") := by
  obtain ⟨l, rfl, hvs, rfl, h1, h2⟩ := h
  have e : (l ++ [n]).foldl stepP ([], []) = ((l.foldl stepP ([], [])).1 ++ [(l.foldl stepP ([], [])).2], []) := by
    rw [List.foldl_append]
    show stepP _ n = _
    unfold stepP; rw [if_pos hs]
  refine ⟨l ++ [n], by simp, ?_, ?_, ?_, Nat.zero_le _⟩
  · rw [e, List.map_append]; exact hvs.append' (.cons _ _ .nil)
  · rw [e]; with_unfolding_all rfl
  · simp only [List.length_append, List.length_cons, List.length_nil]; omega
theorem fold_pieces : ∀ (l : List Nat) (a b : List (List Nat) × List Nat), a.2 = b.2 → a.1.filter (fun w => !w.isEmpty) = b.1 →
    (l.foldl stepP a).2 = (l.foldl stepW b).2 ∧ (l.foldl stepP a).1.filter (fun w => !w.isEmpty) = (l.foldl stepW b).1
  | [], _, _, h1, h2 => ⟨h1, h2⟩
  | c :: r, a, b, h1, h2 => by
    rw [List.foldl_cons, List.foldl_cons]
    refine fold_pieces r _ _ ?_ ?_
    · unfold stepP stepW; split <;> simp [h1]
    · unfold stepP stepW
      split
      · rw [List.filter_append, h2, h1]
        by_cases hb : b.2 = []
        · simp [hb]
        · rw [if_neg hb]; simp [hb]
      · exact h2
theorem pieces_words (l : List Nat) : ((l.foldl stepP ([], [])).1 ++ [(l.foldl stepP ([], [])).2]).filter (fun w => !w.isEmpty) = words0 l := by
  obtain ⟨h1, h2⟩ := fold_pieces l ([], []) ([], []) rfl rfl
  rw [List.filter_append, h2, h1]
  unfold words0 runs
  by_cases hb : (l.foldl stepW ([], [])).2 = []
  · simp [hb]
  · rw [if_neg hb]; simp [hb]
theorem codes_inj {x : Str} {l : List Nat} (h : KStt.codes x = l.map Int.ofNat) : l = x.cps.toList := by
  have : x.cps.toList.map Int.ofNat = l.map Int.ofNat := h
  exact (List.map_inj_right (fun a b e => Int.ofNat.inj e)).mp this.symm
theorem split_pieces {x : Str} {l : List Nat} (h : KStt.codes x = l.map Int.ofNat) :
    (((l.foldl stepP ([], [])).1 ++ [(l.foldl stepP ([], [])).2]).map mkS).filter (fun y => y != Str.ofString "") = splitL x := by
  rw [codes_inj h, List.filter_map]
  unfold splitL
  rw [← pieces_words]
  congr 1
  refine List.filter_congr fun w _ => ?_
  show (mkS w != Str.ofString "") = _
  rw [str_ne_empty]; rfl
theorem words12_25 : True := by
  k_with "eval ListComp" => (k_here; k_dflt (refine LCt.ListComp_T (F₀ := by k_asm) (by with_unfolding_all rfl) (by decide) (by rfl) (by decide) (by rfl) ?_))
  k_with "exec Assign cons ListComp" => (k_here; k_dflt (refine LCt.Assign_ListComp_T (F₀ := by k_asm) (by rfl) (by with_unfolding_all rfl) (by with_unfolding_all rfl) (by decide) (by rfl) (by decide) (by rfl) (by rfl) (by rfl) ?_))
  trivial

theorem lsplit_does (e : Wd) (x : Str) (t : Tok) (hx : x.length ≤ 1000) :
    Does e 206 360 350 [.str x t] [] (fun v n' => ∃ n'', n' = n'' ++ [] ∧ ∃ (a : Nat) (vs : List Value) (ep : Nat), v = .ref a ∧ n'' = [(a, W.listOf vs.toArray ep)] ∧ StrsAre vs (splitL x)) := by
  k_dflt (refine' enter (binds := [(Str.ofString "value", .str x t)]) ?k6 ?k7 ?k8 ?k9 ?kB ?_ ?c5 ?c2 ?c3 ?c4; (case k6 => k_is); (case k7 => k_is); (case k8 => decide); (case k9 => intro s; exact BindsTo.of_eq rfl); (case kB => exact locs rfl); (case c5 => decide); (case c2 => exact rfl); (case c3 => exact rfl); (case c4 => exact rfl); k_whole; intro base g envs s0 L' h' tk' B' X' T' F' N' l1; (try k_lt l1); (try dsimp only [List.reverse, List.reverseAux] at F'); (try dsimp only); (try k_fold))
  have hHL : HandLoop := ⟨trivial⟩
  k_steps
  rename_i l _ _ _ hN
  clear hHL
  refine KStt.kst_text (σ := List Value × Str × Tok × Nat) (fun c => [(l, W.listOf (c.1 ++ [Value.str c.2.1 c.2.2.1]).toArray c.2.2.2)]) (fun _ => []) (fun _ => True) [] (fun pre c => LspInv pre c.1 c.2.1) ([], Str.ofString "", tk', 0) rfl lF' hN trivial (fun _ hp => nomatch hp) ⟨[], rfl, .nil, by with_unfolding_all rfl, Nat.le_refl _, Nat.le_refl _⟩ ?_ ?_
  · rintro ⟨vs, cur, tc, ep⟩ pre post n tt u h2 tk2 own hcod hoff _ hP F2 N2
    have hn := codes_nat hcod
    have hlt := codes_len hcod
    dsimp only at hP F2 N2
    simp only [List.cons_append, List.nil_append] at N2
    have hown : ∀ p ∈ own, p.1 ≠ l := fun p hp => hoff p hp l (by simp)
    obtain ⟨ln, hpre, hvs, hcur, hvl, hcl⟩ := hP
    k_steps
    · refine' inv_end (vs, cur ++ PySem.Str.mk #[n], _, ep) (by assumption) (by assumption) ?hn (fun p hp => List.mem_cons_of_mem _ hp) rfl trivial (fun _ hp => nomatch hp) ?hz ?hp
      case hn => intro p hp; rw [List.mem_singleton.mp hp]; exact List.mem_cons_self
      case hz => intro z hz _ _; simp [hz, kstB]
      case hp => exact lsp_ch ⟨ln, hpre, hvs, hcur, hvl, hcl⟩ (by have hq := sp_found _ (.inr lsp_lit) n; rw [← hq]; simp only [*]; rfl)
    · refine' inv_end (vs ++ [Value.str cur tc], Str.ofString "", _, ep + 1) (by assumption) (by assumption) ?hn (fun p hp => List.mem_cons_of_mem _ hp) rfl trivial (fun _ hp => nomatch hp) ?hz ?hp
      case hn => intro p hp; rw [List.mem_singleton.mp hp, List.mem_cons]; exact .inl (by simp; rfl)
      case hz => intro z hz _ _; simp [hz, kstB]
      case hp => exact lsp_sp ⟨ln, hpre, hvs, hcur, hvl, hcl⟩ (by have hq := sp_found _ (.inr lsp_lit) n; rw [← hq]; simp only [*]; rfl)
  · rintro ⟨vs, cur, tc, ep⟩ u h2 tk2 _ hP hF2 hN2
    obtain ⟨ln, hpre, hvs, hcur, hvl, hcl⟩ := hP
    dsimp only at hF2 hN2 hvs hcur hvl hcl
    k_steps
    have hS : StrsAre (vs ++ [Value.str cur tc]) (((ln.foldl stepP ([], [])).1 ++ [(ln.foldl stepP ([], [])).2]).map mkS) := by
      rw [List.map_append, hcur]; exact hvs.append' (.cons _ _ .nil)
    have hfilt : (((ln.foldl stepP ([], [])).1 ++ [(ln.foldl stepP ([], [])).2]).map mkS).filter (fun y => y != Str.ofString "") = splitL x := split_pieces hpre
    generalize (((ln.foldl stepP ([], [])).1 ++ [(ln.foldl stepP ([], [])).2]).map mkS) = ss at hS hfilt
    have hlen := strs_len hS
    rw [KStt.codes_length] at hvl
    have hsz : (vs ++ [Value.str cur tc]).length ≤ 1001 := by simp only [List.length_append, List.length_cons, List.length_nil]; omega
    refine LCt.CompSrcT.ledger rfl hF2 hN2 List.mem_cons_self (by rw [PySem.sizeLine_eq, List.size_toArray]; omega)
      (fun gg => restT_gen (FiltJ (fun y => y != Str.ofString "") ss) (.inr ⟨_, List.mem_cons_self, rfl, _, rfl⟩) ss.length ?_ ?_ _ 0 [] (by rw [Nat.zero_add, List.size_toArray, hlen]) .nil)
    · intro ys hJ D h3 tk3 F3 N3 _
      ((try dsimp only); refine' Back.intro [(D, LCg.lst ys)] ?Fq17 ?Nq17 ?_; (case Fq17 => k_asm); (case Nq17 => (refine' KStt.news_of ?Xq17 ?Yq17; (case Xq17 => k_asm); (case Yq17 => kstt_sub))))
      exact ⟨_, (List.append_nil _).symm, D, ys, _, rfl, rfl, hfilt ▸ hJ.whole⟩
    · intro i v ys I oI C oC D m₂ h3 tk3 E' hi hP hJ hoC hxx F3 N3 off hne
      obtain ⟨y, ty, hy, rfl⟩ := strs_get hS (by simpa using hP)
      clear hF2 hN2 lF' hN
      k_steps
      · exact LeafEnd.intro (by k_asm) (by k_asm) (fun _ hp => hp) (hJ.yes hy (by assumption))
      · exact LeafEnd.intro (by k_asm) (by k_asm) (fun _ hp => hp) (hJ.no hy (by assumption))
theorem words12_26 : True := by
  k_with "call ref" => (k_here; (with_reducible show wpAny _ _ (call (Value.ref 206) _) _ _ _); k_dflt (refine' use0 (lsplit_does _ _ _ ?hx) ?B ?F ?X ?T ?N ?hA ?hh ?hg ?hf ?hke ?hD ?hU ?hn ?_; (case B => k_asm); (case F => k_asm); (case X => k_asm); (case T => k_asm); (case N => k_asm); (case hA => exact rfl); (case hh => exact rfl); (case hg => exact rfl); (case hf => exact rfl); (case hke => exact rfl); (case hD => exact Nat.le_of_ble_eq_true rfl); (case hU => exact Nat.le_of_ble_eq_true rfl); (case hx => (first | assumption | omega)); (case hn => k_extra "MINE nil"); k_whole; intro v9 h9 tk9 n9 F9 N9 ap9 p9; obtain ⟨a9, vs9, ep9, e9, hn9, hv9⟩ := p9; subst hn9; subst e9; (try simp only [List.cons_append, List.nil_append] at N9); (try k_sweep)))
  trivial

theorem ltold_does (e : Wd) (kind x : Str) (tk t : Tok) (hx : x.length ≤ 1000) :
    Does e 213 350 300 [.str kind tk, .str x t] [] (fun v n' => ∃ n'', n' = n'' ++ [] ∧ n'' = [] ∧ ∃ t', v = .str (told kind x) t') := by
  k_dflt (refine' enter (binds := [(Str.ofString "kind", .str kind tk), (Str.ofString "value", .str x t)]) ?k6 ?k7 ?k8 ?k9 ?kB ?_ ?c5 ?c2 ?c3 ?c4; (case k6 => k_is); (case k7 => k_is); (case k8 => decide); (case k9 => intro s; exact BindsTo.of_eq rfl); (case kB => exact locs rfl); (case c5 => decide); (case c2 => exact rfl); (case c3 => exact rfl); (case c4 => exact rfl); k_whole; intro base g envs s0 L' h' tk' B' X' T' F' N' l1; (try k_lt l1); (try dsimp only [List.reverse, List.reverseAux] at F'); (try dsimp only); (try k_fold))
  k_steps
  all_goals ((try dsimp only); refine' Back.intro [] ?Fq18 (fun _ hp => nomatch hp) ?_; (case Fq18 => k_asm))
  all_goals refine ⟨[], rfl, rfl, ?_⟩
  · refine ⟨t, ?_⟩
    unfold told; rw [if_pos (eq_of_beq (by assumption))]
  · refine ⟨tj9, ?_⟩
    unfold told; rw [if_neg (ne_of_beq_false (by assumption))]
theorem words12_27 : True := by
  k_with "call ref" => (k_here; (with_reducible show wpAny _ _ (call (Value.ref 213) _) _ _ _); k_dflt (refine' use0 (ltold_does _ _ _ _ _ ?hx) ?B ?F ?X ?T ?N ?hA ?hh ?hg ?hf ?hke ?hD ?hU ?hn ?_; (case B => k_asm); (case F => k_asm); (case X => k_asm); (case T => k_asm); (case N => k_asm); (case hA => exact rfl); (case hh => exact rfl); (case hg => exact rfl); (case hf => exact rfl); (case hke => exact rfl); (case hD => exact Nat.le_of_ble_eq_true rfl); (case hU => exact Nat.le_of_ble_eq_true rfl); (case hx => (first | assumption | omega)); (case hn => k_extra "MINE nil"); k_whole); intro v9 h9 tk9 n9 F9 N9 ap9 p9; obtain ⟨hn9, t9, e9⟩ := p9; subst hn9; subst e9; clear ap9; (try simp only [List.nil_append] at N9); (try k_sweep))
  trivial


inductive IsOpt : Option Str → Value → Prop
  | none : IsOpt none .none
  | some (x : Str) (t : Tok) : IsOpt (some x) (.str x t)
def fixOff (fx : Option Str) (v : Str) : Option Str := match fx with | some f => if (v != f) = true then some f else none | none => none
abbrev choiceK (kind : Str) : Bool := inL [Str.ofString "enumeration", Str.ofString "notation"] kind
def fitC2 (p : Str → Bool) (kind : Str) (cs : List Str) (v : Str) : Option Str :=
  if (kind == Str.ofString "CDATA") = true then none
  else if choiceK kind = true then (if inL cs v = true then none else some (Str.ofString "is none of " ++ joinS cs))
  else if wordsOf kind v = [] then some (Str.ofString "has no word")
  else match (wordsOf kind v).filter (fun x => !p x) with
    | [] => none
    | b :: _ => some (Str.ofString "has a word that is none of kind " ++ kind ++ Str.ofString ": " ++ b)
def fitC (p : Str → Bool) (kind : Str) (cs : List Str) (fx : Option Str) (v : Str) : Option Str :=
  match fixOff fx v with
  | some f => some (Str.ofString "is not the fixed value " ++ f)
  | none => fitC2 p kind cs v
section
variable {p : Str → Bool} {kind v z : Str} {cs r : List Str}
theorem fit_cd (h : (kind == Str.ofString "CDATA") = true) : fitC2 p kind cs v = none := by unfold fitC2; rw [if_pos h]
theorem fit_in (h : (kind == Str.ofString "CDATA") = false) (h2 : choiceK kind = true) (h3 : inL cs v = true) : fitC2 p kind cs v = none := by
  unfold fitC2; rw [if_neg (by rw [h]; decide), if_pos h2, if_pos h3]
theorem fit_out (h : (kind == Str.ofString "CDATA") = false) (h2 : choiceK kind = true) (h3 : inL cs v = false) : fitC2 p kind cs v = some (Str.ofString "is none of " ++ joinS cs) := by
  unfold fitC2; rw [if_neg (by rw [h]; decide), if_pos h2, if_neg (by rw [h3]; decide)]
theorem fit_no (h : (kind == Str.ofString "CDATA") = false) (h2 : choiceK kind = false) (h3 : listK kind = true) (h4 : decide (splitL v = []) = true) : fitC2 p kind cs v = some (Str.ofString "has no word") := by
  unfold fitC2 wordsOf; rw [if_neg (by rw [h]; decide), if_neg (by rw [h2]; decide), if_pos h3, if_pos (of_decide_eq_true h4)]
theorem fit_l0 (h : (kind == Str.ofString "CDATA") = false) (h2 : choiceK kind = false) (h3 : listK kind = true) (h4 : decide (splitL v = []) = false) (h5 : decide ((splitL v).filter (fun x => !p x) = []) = true) : fitC2 p kind cs v = none := by
  unfold fitC2 wordsOf; rw [if_neg (by rw [h]; decide), if_neg (by rw [h2]; decide), if_pos h3, if_neg (of_decide_eq_false h4), of_decide_eq_true h5]
theorem fit_l1 (h : (kind == Str.ofString "CDATA") = false) (h2 : choiceK kind = false) (h3 : listK kind = true) (h4 : decide (splitL v = []) = false) (h5 : (splitL v).filter (fun x => !p x) = z :: r) :
    fitC2 p kind cs v = some (Str.ofString "has a word that is none of kind " ++ kind ++ Str.ofString ": " ++ z) := by
  unfold fitC2 wordsOf; rw [if_neg (by rw [h]; decide), if_neg (by rw [h2]; decide), if_pos h3, if_neg (of_decide_eq_false h4), h5]
theorem wordsOf_one (h3 : listK kind = false) : wordsOf kind v = [v] := by unfold wordsOf; rw [if_neg (by rw [h3]; decide)]
theorem fit_o0 (h : (kind == Str.ofString "CDATA") = false) (h2 : choiceK kind = false) (h3 : listK kind = false) (h4 : p v = true) : fitC2 p kind cs v = none := by
  unfold fitC2; rw [if_neg (by rw [h]; decide), if_neg (by rw [h2]; decide), wordsOf_one h3, if_neg (List.cons_ne_nil _ _), show [v].filter (fun x => !p x) = [] from by simp [h4]]
theorem fit_o1 (h : (kind == Str.ofString "CDATA") = false) (h2 : choiceK kind = false) (h3 : listK kind = false) (h4 : p v = false) :
    fitC2 p kind cs v = some (Str.ofString "has a word that is none of kind " ++ kind ++ Str.ofString ": " ++ v) := by
  unfold fitC2; rw [if_neg (by rw [h]; decide), if_neg (by rw [h2]; decide), wordsOf_one h3, if_neg (List.cons_ne_nil _ _), show [v].filter (fun x => !p x) = [v] from by simp [h4]]
end
theorem words13_28 : True := by
  k_with "MINE fit" => first | (rw [fit_cd (by assumption)]; exact IsOpt.none) | (rw [fit_in (by assumption) (by assumption) (by assumption)]; exact IsOpt.none) | (rw [fit_out (by assumption) (by assumption) (by assumption)]; exact IsOpt.some _ _) | (rw [fit_no (by assumption) (by assumption) (by assumption) (by assumption)]; exact IsOpt.some _ _) | (rw [fit_l0 (by assumption) (by assumption) (by assumption) (by assumption) (by assumption)]; exact IsOpt.none) | (rw [fit_l1 (by assumption) (by assumption) (by assumption) (by assumption) (by assumption)]; exact IsOpt.some _ _) | (rw [fit_o0 (by assumption) (by assumption) (by assumption) (by assumption)]; exact IsOpt.none) | (rw [fit_o1 (by assumption) (by assumption) (by assumption) (by assumption)]; exact IsOpt.some _ _)
  trivial

theorem mem_filt {p : Str → Bool} {ss : List Str} {z : Str} {r : List Str} (h : ss.filter p = z :: r) : z ∈ ss := (List.mem_filter.mp (h ▸ List.mem_cons_self)).1
theorem wordsOf_asc {k v : Str} (h : Asc v) : ∀ x ∈ wordsOf k v, Asc x := by
  unfold wordsOf
  split
  · exact split_asc h
  · intro x hx; rw [List.mem_singleton.mp hx]; exact h
theorem words13_29 : True := by
  k_with "MINE strs" => first | assumption | (repeat constructor)
  k_with "MINE asc" => first | assumption | exact split_asc (by assumption) | exact wordsOf_asc (by assumption) | (intro x9 hx9; cases hx9; done) | (intro x9 hx9; rw [List.mem_singleton.mp hx9]; assumption) | (intro x9 hx9; exact split_asc (by assumption) x9 (List.mem_filter.mp hx9).1) | (intro x9 hx9; exact wordsOf_asc (by assumption) x9 (List.mem_filter.mp hx9).1)
  k_with "compareOp Eq ref ref" => (k_here; k_dflt (refine' eq_strs ?k1 ?k2 ?k3 ?k4 ?k5 ?k6 ?k7 ?_; (case k1 => k_extra "MINE lst"); (case k2 => k_extra "MINE lst"); (case k3 => k_extra "MINE strs"); (case k4 => k_extra "MINE strs"); (case k5 => k_extra "MINE asc"); (case k6 => k_extra "MINE asc"); (case k7 => exact Nat.le_of_ble_eq_true rfl); k_whole); (try simp only [reduceCtorEq, decide_false, decide_true]))
  trivial

theorem split_count {vs : List Value} {x : Str} (hs : StrsAre vs (splitL x)) (h : x.length ≤ 1000) : vs.length ≤ 3000 := by
  have h1 := light_split h
  have h2 : (splitL x).length ≤ 1001 := by
    have hm := fold_mass x.cps.toList ([], [])
    have h0 : massW ([], []) = 0 := rfl
    have hlen : x.cps.toList.length = x.length := len_list x
    have hm' : massW (runs x.cps.toList) ≤ x.length := by unfold runs; omega
    unfold massW at hm'
    unfold splitL words0
    rw [List.length_map]
    split
    · omega
    · simp only [List.length_append, List.length_cons, List.length_nil]; omega
  rw [strs_len hs]; omega
theorem filt_le {p : Str → Bool} {v z : Str} {r : List Str} (hv : v.length ≤ 1000) (h : (splitL v).filter p = z :: r) : z.length ≤ 20000 := split_le hv z (mem_filt h)
theorem words13_30 : True := by
  k_with "subscriptTail Name Constant ref int" => (k_here; k_dflt (refine' item_first ?k1 ?k2 ?k3 ?_; (case k1 => k_extra "MINE lst"); (case k2 => assumption); (case k3 => assumption)); intro z9 r9 t9 hz9; (try (have hzl9 := filt_le (by assumption) hz9)))
  trivial

theorem misfit_does (e : Wd) (kind v : Str) (tk tv : Tok) (ch : Nat) (cvs : List Value) (cs : List Str) (ep : Nat) (of : Option Str) (vf : Value) (hof : IsOpt of vf) (hcs : StrsAre cvs cs) (hl : Light cs) (hk : kind.length ≤ 20) (hv : v.length ≤ 1000) (hva : Asc v) (hf : ∀ f, of = some f → f.length ≤ 1000) :
    Does e 225 340 300 [.str kind tk, .ref ch, vf, .str v tv] [(ch, W.listOf cvs.toArray ep)] (fun r n' => ∃ n'', n' = n'' ++ [(ch, W.listOf cvs.toArray ep)] ∧ n'' = [] ∧ IsOpt (fitC (lwordC kind) kind cs of v) r) := by
  k_dflt (refine' enterC (binds := [(Str.ofString "kind", .str kind tk), (Str.ofString "choices", .ref ch), (Str.ofString "fixed", vf), (Str.ofString "value", .str v tv)]) ?k6 ?k7 ?k8 ?k9 ?kB ?kD ?_ ?c2 ?c3 ?c4; (case k6 => k_is); (case k7 => k_is); (case k8 => decide); (case k9 => intro s; exact BindsTo.of_eq rfl); (case kB => exact rfl); (case kD => decide +kernel); (case c2 => exact rfl); (case c3 => exact rfl); (case c4 => exact rfl); k_whole; intro base g envs s0 L' h' tk' cells' B' X' T' F' N' Y' l1; (try k_lt l1); k_cells Y'; (try simp only [List.cons_append, List.nil_append] at N'); (try dsimp only); (try k_fold))
  refine cutK (fixOff of v = none) F' N' ?_ (fun h2 tk2 hoff F2 N2 => ?_)
  · cases hof with
    | none =>
      k_steps
      dsimp only
      exact CutEnd.intro (by k_asm) (by k_asm) (fun _ hp => hp) rfl
    | some f tf =>
      have hfl : f.length ≤ 1000 := hf f rfl
      k_steps
      · ((try dsimp only); refine' Back.intro [(ch, W.listOf cvs.toArray ep)] ?Fq19 ?Nq19 ?_; (case Fq19 => k_asm); (case Nq19 => (refine' KStt.news_of ?Xq19 ?Yq19; (case Xq19 => k_asm); (case Yq19 => kstt_sub))))
        refine ⟨[], rfl, rfl, ?_⟩
        have e1 : fixOff (some f) v = some f := by unfold fixOff; simp only [*, if_true]
        unfold fitC; rw [e1]; exact IsOpt.some _ _
      · dsimp only
        refine CutEnd.intro (by k_asm) (by k_asm) (fun _ hp => hp) ?_
        unfold fixOff; simp only [*, Bool.false_eq_true, if_false]
  · clear F' N'
    have e0 : fitC (lwordC kind) kind cs of v = fitC2 (lwordC kind) kind cs v := by unfold fitC; rw [hoff]
    rw [e0]
    k_steps
    all_goals try (((try dsimp only); refine' Back.intro [(ch, W.listOf cvs.toArray ep)] ?Fq20 ?Nq20 ?_; (case Fq20 => k_asm); (case Nq20 => (refine' KStt.news_of ?Xq20 ?Yq20; (case Xq20 => k_asm); (case Yq20 => kstt_sub)))); refine ⟨[], rfl, rfl, ?_⟩; k_extra "MINE fit")
    refine' src_filt (fun x => !lwordC kind x) rfl ?F ?N ?m ?s ?l ?fin ?step
    case F => k_asm
    case N => k_asm
    case m => k_mem
    case s => assumption
    case l => exact split_count (by assumption) (by assumption)
    case fin =>
      intro gg ys hys D h3 tk3 F3 N3 off3
      dsimp only
      k_steps
      all_goals (((try dsimp only); refine' Back.intro [(ch, W.listOf cvs.toArray ep)] ?Fq21 ?Nq21 ?_; (case Fq21 => k_asm); (case Nq21 => (refine' KStt.news_of ?Xq21 ?Yq21; (case Xq21 => k_asm); (case Yq21 => kstt_sub)))); refine ⟨[], rfl, rfl, ?_⟩; k_extra "MINE fit")
    case step =>
      intro gg i y ty ys I oI C oC D m₂ h3 tk3 E' hy hyl hJ hoC hxx F3 N3 off hne

      k_steps
      · exact LeafEnd.intro (by k_asm) (by k_asm) (fun _ hp => hp) (hJ.no hy (by simp only [*]; rfl))
      · exact LeafEnd.intro (by k_asm) (by k_asm) (fun _ hp => hp) (hJ.yes hy (by simp only [*]; rfl))
theorem words13_31 : True := by
  k_with "MINE opt" => first | assumption | exact IsOpt.none | exact IsOpt.some _ _
  k_with "call ref" => (k_here; (with_reducible show wpAny _ _ (call (Value.ref 225) _) _ _ _); k_dflt (refine' use0 (misfit_does _ _ _ _ _ _ _ _ _ _ _ ?hof ?hcs ?hl ?hk ?hv ?hva ?hw1) ?B ?F ?X ?T ?N ?hA ?hh ?hg ?hf ?hke ?hD ?hU ?hn ?_; (case B => k_asm); (case F => k_asm); (case X => k_asm); (case T => k_asm); (case N => k_asm); (case hA => exact rfl); (case hh => exact rfl); (case hg => exact rfl); (case hf => exact rfl); (case hke => exact rfl); (case hD => exact Nat.le_of_ble_eq_true rfl); (case hU => exact Nat.le_of_ble_eq_true rfl); (case hof => k_extra "MINE opt"); (case hcs => assumption); (case hl => assumption); (case hk => assumption); (case hv => (first | assumption | omega)); (case hva => assumption); (case hw1 => (intro f9 hf9; first | (cases hf9; done) | (cases hf9; first | assumption | omega))); (case hn => k_extra "MINE one"); k_whole); intro v9 h9 tk9 n9 F9 N9 ap9 p9; obtain ⟨hn9, p9⟩ := p9; subst hn9; clear ap9; (try simp only [List.nil_append] at N9); (try k_sweep))
  k_with "MINE one" => (intro p9 hp9; rw [List.mem_singleton.mp hp9]; k_mem)
  trivial


/-- the end of a turn of a loop over texts -/
def TurnEnd (h₀ : Heap) (L I : Addr) (oI : Obj) (J : (Str → Option Value) → Led → Prop) (s₁ : Shared) (Q : Flow → Shared → Prop) (f : Flow) (s₂ : Shared) : Prop :=
  match f with
  | .ret v => Q (.ret v) s₂
  | .brk => Q .next s₂
  | _ => ∃ h' tk' m' nx, s₂ = { s₁ with heap := h', toks := tk' } ∧ Fr h₀ L h' m' ∧ News h₀ L h' ((I, oI) :: nx) ∧ (∀ p ∈ nx, p.1 ≠ I) ∧ J m' nx
theorem TurnEnd.next {h₀ : Heap} {L I : Addr} {oI : Obj} {J : (Str → Option Value) → Led → Prop} {s₁ : Shared} {Q : Flow → Shared → Prop} {h' : Heap} {tk : Nat} {m' : Str → Option Value} {all : Led} (nx : Led)
    (F : Fr h₀ L h' m') (N : News h₀ L h' all) (hs : ∀ p ∈ (I, oI) :: nx, p ∈ all) (ho : ∀ p ∈ nx, p.1 ≠ I) (j : J m' nx) : TurnEnd h₀ L I oI J s₁ Q .next { s₁ with heap := h', toks := tk } :=
  ⟨h', tk, m', nx, rfl, F, KStt.news_of N hs, ho, j⟩
theorem TurnEnd.ret {h₀ : Heap} {L I : Addr} {oI : Obj} {J : (Str → Option Value) → Led → Prop} {s₁ s₂ : Shared} {Q : Flow → Shared → Prop} {v : Value} (h : Q (.ret v) s₂) : TurnEnd h₀ L I oI J s₁ Q (.ret v) s₂ := h
section
variable {prog : Program} {w : World} {A : Around} {E : Value → Shared → Prop} {s : Shared} {env : Env} {h₀ : Heap} {x : Str} {px : Pos} {body : List Stmt} {Q : Flow → Shared → Prop} {m : Str → Option Value} {news : Led} {ax : Addr} {obj : Obj}
theorem turns_walk {I : Addr} {n : Nat} {P : Nat → Value → Prop} {St : Nat → Heap → Prop}
    (W : Walks prog w A I [I, ax] [I] n P St) (hst : St 0 s.heap) (hIo : ∀ i h, St i h → ∃ o, h.get? I = some o)
    (F : Fr h₀ env.locals s.heap m) (N : News h₀ env.locals s.heap news) (hLI : env.locals ≠ I) (hI₀ : h₀.get? I = none) (off : ∀ p ∈ news, p.1 ≠ I)
    (J : Nat → (Str → Option Value) → Led → Prop) (h0 : J 0 m news) (hJ : ∀ i m nx, J i m nx → (ax, obj) ∈ nx)
    (step : ∀ i v m₁ news₁ h tk oI, i < n → P i v → J i m₁ news₁ → (∀ p ∈ news₁, p.1 ≠ I) → Fr h₀ env.locals h m₁ → News h₀ env.locals h ((I, oI) :: news₁) →
      wpAny (model prog w) A (assign (.Name x px) env v) (fun _ s₂ => wpAny (model prog w) A (execs body env) (TurnEnd h₀ env.locals I oI (J (i + 1)) { s with heap := h, toks := tk } Q) E s₂) E { s with heap := h, toks := tk })
    (done : ∀ h tk m' nx, J n m' nx → Fr h₀ env.locals h m' → News h₀ env.locals h nx → Q .next { s with heap := h, toks := tk }) :
    TurnsAt prog w A h₀ env (.Name x px) body Q E (.ref I) s := by
  have hLa : env.locals ≠ ax := fun e => (N _ (hJ 0 m news h0)).2.1 e.symm
  refine ⟨I, [I, ax], [I], n, _, _, St, m, news, J, rfl, KTurns.ofWalks W (fun i v s Q E _ h => wpAny_pure h), ?_, ?_, ?_, hst, F, N, h0, ?_, ?_⟩
  · intro hm
    rcases List.mem_cons.mp hm with e | hm
    · exact hLI e
    · exact hLa (List.mem_singleton.mp hm)
  · intro b hb; rw [List.mem_singleton.mp hb]; exact hI₀
  · intro p hp; simpa using off p hp
  · intro i v m₁ news₁ h₁ tk₁ own hi hP hJ1 hnw hown hget hall hst1 F₁ N₁
    obtain ⟨oI, heI⟩ := hIo _ _ hst1
    have hmI : (I, oI) ∈ own := hall I List.mem_cons_self hI₀ oI heI
    have hoff : ∀ p ∈ news₁, p.1 ≠ I := fun p hp => by simpa using hnw p hp
    have N' : News h₀ env.locals h₁ ((I, oI) :: news₁) := fun p hp => by
      rcases List.mem_cons.mp hp with rfl | hp
      · exact N₁ _ (List.mem_append_left _ hmI)
      · exact N₁ _ (List.mem_append_right _ hp)
    refine wpAny_mono (step i v m₁ news₁ h₁ tk₁ oI hi hP hJ1 hoff F₁ N') (fun _ s₂ h₂ => wpAny_mono h₂ (fun f s₃ h₃ => ?_) fun _ _ e => e) fun _ _ e => e
    have fin : (∃ h' tk' m' nx, s₃ = { s with heap := h', toks := tk' } ∧ Fr h₀ env.locals h' m' ∧ News h₀ env.locals h' ((I, oI) :: nx) ∧ (∀ p ∈ nx, p.1 ≠ I) ∧ J (i + 1) m' nx) →
        LoopStepU h₀ env.locals [I] own (J (i + 1)) { s with heap := h₁, toks := tk₁ } .next s₃ := by
      rintro ⟨h', tk', m', nx, rfl, F', N'', off', j⟩
      refine ⟨rfl, h', tk', m', nx, rfl, F', fun p hp => ?_, fun p hp => by simpa using off' p hp, j⟩
      rcases List.mem_append.mp hp with hp | hp
      · rcases List.mem_cons.mp (hown p hp) with e | e
        · have h1 := hget p hp
          rw [e, heI] at h1
          have : p = (I, oI) := Prod.ext e (Option.some.inj h1).symm
          exact this ▸ N'' _ List.mem_cons_self
        · have e := List.mem_singleton.mp e
          have h1 := hget p hp
          have h2 := (N₁ _ (List.mem_append_right _ (hJ i m₁ news₁ hJ1))).1
          rw [e] at h1
          have : p = (ax, obj) := Prod.ext e (Option.some.inj (h1.symm.trans h2))
          exact this ▸ N'' _ (List.mem_cons_of_mem _ (hJ _ _ _ j))
      · exact N'' _ (List.mem_cons_of_mem _ hp)
    cases f with
    | ret v => exact h₃
    | brk => exact h₃
    | next => exact fin h₃
    | cont => exact fin h₃
  · intro h' tk m' nx F' N' _ j
    exact done h' tk m' nx j F' N'

/-- a loop over a list of the ledger that holds texts -/
theorem turns_list {vs : List Value} {ss : List Str} {k : Nat} (hh : A.handled = none) (hm : (ax, W.listOf vs.toArray k) ∈ news) (hs : StrsAre vs ss)
    (F : Fr h₀ env.locals s.heap m) (N : News h₀ env.locals s.heap news) (J : Nat → (Str → Option Value) → Led → Prop) (h0 : J 0 m news) (hJ : ∀ i m nx, J i m nx → (ax, W.listOf vs.toArray k) ∈ nx)
    (step : ∀ g i y ty m₁ news₁ h tk I oI, ss[i]? = some y → y ∈ ss → J i m₁ news₁ → (∀ p ∈ news₁, p.1 ≠ I) → Fr h₀ env.locals h m₁ → News h₀ env.locals h ((I, oI) :: news₁) →
      wpAny (model prog w) A (assign (.Name x px) env (.str y ty)) (fun _ s₂ => wpAny (model prog w) A (execs body env) (TurnEnd h₀ env.locals I oI (J (i + 1)) { s with heap := h, toks := tk } Q) E s₂) E { { s with heap := g } with heap := h, toks := tk })
    (done : ∀ g h tk m' nx, J ss.length m' nx → Fr h₀ env.locals h m' → News h₀ env.locals h nx → Q .next { { s with heap := g } with heap := h, toks := tk }) :
    wpAny (model prog w) A (pyIter (.ref ax)) (fun it s₂ => TurnsAt prog w A h₀ env (.Name x px) body Q E it s₂) E s := by
  have hl : s.heap.IsList ax vs.toArray := News.isList N hm
  have hlt : ax < s.heap.objs.size := by obtain ⟨_, e, _⟩ := hl; exact Heap.lt_size e
  have hlen : vs.toArray.size = ss.length := by rw [List.size_toArray, strs_len hs]
  refine wpAny_pyIter_list hl ?_
  have WW := Walks.list (prog := prog) (w := w) hh s.heap.objs.size ax (Nat.ne_of_lt hlt) vs.toArray
  rw [hlen] at WW
  refine turns_walk (obj := W.listOf vs.toArray k) WW ⟨⟨_, Heap.get?_push_size _ rfl, rfl, rfl⟩, hl.push _⟩ (fun i h st => by obtain ⟨o, e, _⟩ := st.1; exact ⟨o, e⟩) (F.push _) (fun p hp => ⟨Heap.get?_push_of_some _ (N p hp).1, (N p hp).2⟩)
    (Nat.ne_of_lt F.ns.lt) (next_is_new F) (fun p hp => Nat.ne_of_lt (Heap.lt_size (N p hp).1)) J h0 hJ ?_ ?_
  · intro i v m₁ news₁ h tk oI hi hP hJ1 hoff F₁ N₁
    obtain ⟨y, ty, hy, rfl⟩ := strs_get hs (by simpa using hP)
    exact step _ i y ty m₁ news₁ h tk _ oI hy (List.mem_of_getElem? hy) hJ1 hoff F₁ N₁
  · intro h tk m' nx j F' N'
    exact done _ h tk m' nx j F' N'
/-- a loop over a tuple of the ledger that holds texts -/
theorem turns_tup {vs : List Value} {ss : List Str} {k : Nat} (hh : A.handled = none) (hm : (ax, obj) ∈ news) (hc : obj.cls = .type "tuple") (hd : obj.data = .seq vs.toArray k) (hs : StrsAre vs ss)
    (F : Fr h₀ env.locals s.heap m) (N : News h₀ env.locals s.heap news) (J : Nat → (Str → Option Value) → Led → Prop) (h0 : J 0 m news) (hJ : ∀ i m nx, J i m nx → (ax, obj) ∈ nx)
    (step : ∀ g i y ty m₁ news₁ h tk I oI, ss[i]? = some y → y ∈ ss → J i m₁ news₁ → (∀ p ∈ news₁, p.1 ≠ I) → Fr h₀ env.locals h m₁ → News h₀ env.locals h ((I, oI) :: news₁) →
      wpAny (model prog w) A (assign (.Name x px) env (.str y ty)) (fun _ s₂ => wpAny (model prog w) A (execs body env) (TurnEnd h₀ env.locals I oI (J (i + 1)) { s with heap := h, toks := tk } Q) E s₂) E { { s with heap := g } with heap := h, toks := tk })
    (done : ∀ g h tk m' nx, J ss.length m' nx → Fr h₀ env.locals h m' → News h₀ env.locals h nx → Q .next { { s with heap := g } with heap := h, toks := tk }) :
    wpAny (model prog w) A (pyIter (.ref ax)) (fun it s₂ => TurnsAt prog w A h₀ env (.Name x px) body Q E it s₂) E s := by
  have hl : s.heap.IsTuple ax vs.toArray := ⟨_, (N _ hm).1, hc, _, hd⟩
  have hlt : ax < s.heap.objs.size := by obtain ⟨_, e, _⟩ := hl; exact Heap.lt_size e
  have hlen : vs.toArray.size = ss.length := by rw [List.size_toArray, strs_len hs]
  refine wpAny_pyIter_tuple hl ?_
  have WW := Walks.tuple (prog := prog) (w := w) hh s.heap.objs.size ax (Nat.ne_of_lt hlt) vs.toArray
  rw [hlen] at WW
  refine turns_walk (obj := obj) WW ⟨⟨_, Heap.get?_push_size _ rfl, rfl, rfl⟩, hl.at fun o e => Heap.get?_push_of_some _ e⟩ (fun i h st => by obtain ⟨o, e, _⟩ := st.1; exact ⟨o, e⟩) (F.push _) (fun p hp => ⟨Heap.get?_push_of_some _ (N p hp).1, (N p hp).2⟩)
    (Nat.ne_of_lt F.ns.lt) (next_is_new F) (fun p hp => Nat.ne_of_lt (Heap.lt_size (N p hp).1)) J h0 hJ ?_ ?_
  · intro i v m₁ news₁ h tk oI hi hP hJ1 hoff F₁ N₁
    obtain ⟨y, ty, hy, rfl⟩ := strs_get hs (by simpa using hP)
    exact step _ i y ty m₁ news₁ h tk _ oI hy (List.mem_of_getElem? hy) hJ1 hoff F₁ N₁
  · intro h tk m' nx j F' N'
    exact done _ h tk m' nx j F' N'
end
/-- a mark: the next loop is taken by hand, its target of any kind -/
structure HandTurns : Prop where
  mark :: (one : True)
theorem words14_32 : True := by
  k_with "pyIter ref" => ((rename HandTurns => hHT); refine unstop ?_)
  k_with "exec For" => ((rename HandTurns => hHT); k_here; (rename Fr _ _ _ _ => lF'); (with_unfolding_all refine' For_turns lF' ?_; k_whole))
  trivial


theorem cutE {M : Model} {A : Around} {E : Value → Shared → Prop} {s : Shared} {env : Env} {h₀ : Heap} {L : Addr} {m : Str → Option Value} {st : Stmt} {Q : Flow → Shared → Prop} (P : Prop) (news : Led) (_F : Fr h₀ L s.heap m)
    (h1 : wpAny M A (exec st env) (fun f s' => match f with | .next => CutEnd h₀ L m news P s s' | f => Q f s') E s)
    (h2 : ∀ h' tk', P → Fr h₀ L h' m → News h₀ L h' news → Q .next { s with heap := h', toks := tk' }) : wpAny M A (exec st env) Q E s := by
  refine wpAny_mono h1 (fun f s' hf => ?_) fun _ _ e => e
  cases f with
  | next =>
    obtain ⟨p, h', tk', rfl, F', N'⟩ := hf
    exact h2 h' tk' p F' N'
  | ret v => exact hf
  | brk => exact hf
  | cont => exact hf
/-- a mark: the next if is taken by hand -/
structure HandIf : Prop where
  mark :: (one : True)
theorem words14_33 : True := by
  k_with "exec If" => ((rename HandIf => hHI); refine unstop ?_)
  trivial


def dueW (p : Str → Bool) (cs : List Str) : Option Str :=
  match cs.find? (fun w => decide (1 < (cs.filter (fun z => z == w)).length) || !p w) with
  | none => none
  | some w => if 1 < (cs.filter (fun z => z == w)).length then some (Str.ofString "is told twice: " ++ w) else some (Str.ofString "is no word: " ++ w)
def dueC (p1 p2 : Str → Bool) (kind : Str) (cs : List Str) (fixed : Bool) (ov : Option Str) : Option Str :=
  if (kind == Str.ofString "ID") = true ∧ ov.isSome = true then some (Str.ofString "an ID has no default")
  else match (if choiceK kind = true then (if cs = [] then some (Str.ofString "there is nothing to choose") else dueW p1 cs) else none) with
    | some m => some m
    | none => match ov with
      | none => none
      | some v => fitC p2 kind cs (if fixed = true then some v else none) (told kind v)
/-- the mode says whether there is a value -/
def hasV (mode : Str) : Bool := inL [Str.ofString "default", Str.ofString "fixed"] mode
def dueP (p : Str → Bool) (kind : Str) (cs : List Str) : Option Str := if choiceK kind = true then (if cs = [] then some (Str.ofString "there is nothing to choose") else dueW p cs) else none
def badW (p : Str → Bool) (cs : List Str) (w : Str) : Bool := decide (1 < (cs.filter (fun z => z == w)).length) || !p w
theorem find_at {c : Str → Bool} : ∀ {cs : List Str} {i : Nat} {y : Str}, (cs.take i).find? c = none → cs[i]? = some y → c y = true → cs.find? c = some y
  | a :: r, 0, y, _, hy, hc => by simp at hy; subst hy; simp [hc]
  | a :: r, i + 1, y, h, hy, hc => by
    simp only [List.take_succ_cons, List.find?_cons] at h
    cases ha : c a with
    | true => simp [ha] at h
    | false =>
      simp only [ha] at h
      rw [List.find?_cons, ha]
      exact find_at h (by simpa using hy) hc
theorem find_on {c : Str → Bool} {cs : List Str} {i : Nat} {y : Str} (h : (cs.take i).find? c = none) (hy : cs[i]? = some y) (hc : c y = false) : (cs.take (i + 1)).find? c = none := by
  rw [List.take_add_one, hy, List.find?_append, h]
  simp [hc]
theorem due_twice {p : Str → Bool} {cs : List Str} {i : Nat} {y : Str} (h : (cs.take i).find? (badW p cs) = none) (hy : cs[i]? = some y) (hn : 1 < (cs.filter (fun z => z == y)).length) : dueW p cs = some (Str.ofString "is told twice: " ++ y) := by
  have : cs.find? (badW p cs) = some y := find_at h hy (by unfold badW; simp [hn])
  unfold dueW
  unfold badW at this
  rw [this]; simp only [hn, if_true]
theorem due_noword {p : Str → Bool} {cs : List Str} {i : Nat} {y : Str} (h : (cs.take i).find? (badW p cs) = none) (hy : cs[i]? = some y) (hn : ¬ 1 < (cs.filter (fun z => z == y)).length) (hp : p y = false) : dueW p cs = some (Str.ofString "is no word: " ++ y) := by
  have : cs.find? (badW p cs) = some y := find_at h hy (by unfold badW; simp [hp])
  unfold dueW
  unfold badW at this
  rw [this]; simp only [hn, if_false]
theorem due_none {p : Str → Bool} {cs : List Str} (h : (cs.take cs.length).find? (badW p cs) = none) : dueW p cs = none := by
  rw [List.take_length] at h
  unfold dueW
  unfold badW at h
  rw [h]
theorem badW_no {p : Str → Bool} {cs : List Str} {y : Str} (hn : ¬ 1 < (cs.filter (fun z => z == y)).length) (hp : p y = true) : badW p cs y = false := by unfold badW; simp [hn, hp]

theorem TurnEnd.cell {h₀ : Heap} {L I D c ch : Addr} {oI x o obj : Obj} {J : (Str → Option Value) → Led → Prop} {s₁ : Shared} {Q : Flow → Shared → Prop} {h' : Heap} {tk : Nat} {m' : Str → Option Value}
    (F : Fr h₀ L h' m') (N : News h₀ L h' [(D, x), (I, oI), (c, o), (ch, obj)]) (h1 : @Ne Nat c I) (h2 : @Ne Nat ch I) (j : J m' [(c, o), (ch, obj)]) : TurnEnd h₀ L I oI J s₁ Q .next { s₁ with heap := h', toks := tk } :=
  TurnEnd.next [(c, o), (ch, obj)] F N (fun p hp => List.mem_cons_of_mem _ hp) (fun p hp => by
    rcases List.mem_cons.mp hp with rfl | hp
    · exact h1
    · rw [List.mem_singleton.mp hp]; exact h2) j
theorem due_does (e : Wd) (kind mode : Str) (tk tm : Tok) (ch : Nat) (cvs : List Value) (cs : List Str) (ep : Nat) (ov : Option Str) (vv : Value) (hov : IsOpt ov vv) (hm : hasV mode = ov.isSome) (hcs : StrsAre cvs cs) (hca : ∀ x ∈ cs, Asc x) (hl : Light cs) (hc3 : cvs.length ≤ 3000) (hk : kind.length ≤ 20)
    (hv : ∀ v, ov = some v → v.length ≤ 1000 ∧ (told kind v).length ≤ 1000 ∧ Asc (told kind v)) :
    Does e 230 330 250 [.str kind tk, .ref ch, .str mode tm, vv] [(ch, W.listOf cvs.toArray ep)] (fun r n' => ∃ n'', n' = n'' ++ [(ch, W.listOf cvs.toArray ep)] ∧ n'' = [] ∧ IsOpt (dueC (lwordC kind) (lwordC kind) kind cs (mode == Str.ofString "fixed") ov) r) := by
  k_dflt (refine' enterC (binds := [(Str.ofString "kind", .str kind tk), (Str.ofString "choices", .ref ch), (Str.ofString "mode", .str mode tm), (Str.ofString "value", vv)]) ?k6 ?k7 ?k8 ?k9 ?kB ?kD ?_ ?c2 ?c3 ?c4; (case k6 => k_is); (case k7 => k_is); (case k8 => decide); (case k9 => intro s; exact BindsTo.of_eq rfl); (case kB => exact rfl); (case kD => decide +kernel); (case c2 => exact rfl); (case c3 => exact rfl); (case c4 => exact rfl); k_whole; intro base g envs s0 L' h' tk' cells' B' X' T' F' N' Y' l1; (try k_lt l1); k_cells Y'; (try simp only [List.cons_append, List.nil_append] at N'); (try dsimp only); (try k_fold))
  have hcl : cvs.length ≤ 20000 := by rw [strs_len hcs]; unfold Light at hl; omega
  have hcl3 : cvs.length ≤ 3000 := hc3
  have hwl := light_mem hl
  rename_i o1 d1
  have hHI : HandIf := ⟨trivial⟩
  k_steps
  unfold Stopped
  clear hHI
  refine' cutE (¬ ((kind == Str.ofString "ID") = true ∧ hasV mode = true)) [(L' + 1, o1), (ch, W.listOf cvs.toArray ep)] ?Fa ?_ ?_
  case Fa => k_asm
  · k_steps
    · ((try dsimp only); refine' Back.intro [(ch, W.listOf cvs.toArray ep)] ?Fq22 ?Nq22 ?_; (case Fq22 => k_asm); (case Nq22 => (refine' KStt.news_of ?Xq22 ?Yq22; (case Xq22 => k_asm); (case Yq22 => kstt_sub))))
      refine ⟨[], rfl, rfl, ?_⟩
      have e1 : ov.isSome = true := hm ▸ (by assumption)
      have e2 : dueC (lwordC kind) (lwordC kind) kind cs (mode == Str.ofString "fixed") ov = some (Str.ofString "an ID has no default") := by unfold dueC; rw [if_pos ⟨by assumption, e1⟩]
      rw [e2]; exact IsOpt.some _ _
    · dsimp only
      refine CutEnd.intro (by k_asm) (by k_asm) (by kstt_sub) (fun hh => ?_)
      have : hasV mode = false := by assumption
      rw [this] at hh; exact absurd hh.2 (by decide)
    · dsimp only
      refine CutEnd.intro (by k_asm) (by k_asm) (by kstt_sub) (fun hh => ?_)
      have : (kind == Str.ofString "ID") = false := by assumption
      rw [this] at hh; exact absurd hh.1 (by decide)
  intro h2 tk2 hP1 F2 N2
  have e3 : dueC (lwordC kind) (lwordC kind) kind cs (mode == Str.ofString "fixed") ov = match dueP (lwordC kind) kind cs with
    | some m => some m
    | none => match ov with
      | none => none
      | some v => fitC (lwordC kind) kind cs (if (mode == Str.ofString "fixed") = true then some v else none) (told kind v) := by
    unfold dueC dueP; rw [if_neg (by rw [← hm]; exact hP1)]; cases ov <;> rfl
  rw [e3]
  clear e3
  dsimp only
  have hHI : HandIf := ⟨trivial⟩
  k_steps
  unfold Stopped
  clear hHI
  refine' cutE (dueP (lwordC kind) kind cs = none) [(ch, W.listOf cvs.toArray ep)] ?Fb ?_ ?_
  case Fb => k_asm
  · have hHT : HandTurns := ⟨trivial⟩
    k_steps
    · ((try dsimp only); refine' Back.intro [(ch, W.listOf cvs.toArray ep)] ?Fq23 ?Nq23 ?_; (case Fq23 => k_asm); (case Nq23 => (refine' KStt.news_of ?Xq23 ?Yq23; (case Xq23 => k_asm); (case Yq23 => kstt_sub))))
      refine ⟨[], rfl, rfl, ?_⟩
      have hc0 : cs = [] := List.eq_nil_of_length_eq_zero (by rw [← strs_len hcs]; omega)
      have e2 : dueP (lwordC kind) kind cs = some (Str.ofString "there is nothing to choose") := by unfold dueP; rw [if_pos (by assumption), if_pos hc0]
      rw [e2]; exact IsOpt.some _ _
    · have hcne : ¬ cs = [] := fun hh => by
        have h0 : cvs.length = 0 := by rw [strs_len hcs, hh]; rfl
        omega
      have e4 : dueP (lwordC kind) kind cs = dueW (lwordC kind) cs := by unfold dueP; rw [if_pos (by assumption), if_neg hcne]
      rw [e4]
      unfold Stopped
      clear hHT
      refine' turns_list (news := [(L' + 1, o1), (ch, W.listOf cvs.toArray ep)]) rfl ?mc hcs ?Fc ?Nc (fun i m₁ nx => m₁ = _ ∧ (∃ o : Obj, (∃ oc, o.data = .cell oc) ∧ nx = [(L' + 1, o), (ch, W.listOf cvs.toArray ep)]) ∧ (cs.take i).find? (badW (lwordC kind) cs) = none) ⟨rfl, ⟨_, ⟨_, d1⟩, rfl⟩, rfl⟩ ?_ ?_ ?_
      case Fc => k_asm
      case Nc => (refine' KStt.news_of ?Xc ?Yc; (case Xc => k_asm); (case Yc => kstt_sub))
      case mc => k_mem
      · rintro i m₁ nx ⟨_, ⟨o, _, rfl⟩, _⟩; k_mem
      · rintro gg i y ty m₁ nx h tk I oI hy hyc ⟨rfl, ⟨o, ⟨oc, hoc⟩, rfl⟩, hfi⟩ hoff F4 N4
        have hyl := hwl y hyc
        have ho1 : @Ne Nat (L' + 1) I := hoff _ List.mem_cons_self
        have ho2 : @Ne Nat ch I := hoff _ (List.mem_cons_of_mem _ List.mem_cons_self)
        k_steps
        refine' src_filt (fun z => z == y) rfl ?Fd ?Nd ?md hcs ?ld ?fin ?step
        case Fd => k_asm
        case Nd => k_asm
        case md => k_mem
        case ld => exact hcl3
        case fin =>
          intro g6 ys hys D h6 tk6 F6 N6 off6
          clear F4 N4
          have hyn := strs_len hys
          have hyn2 : ys.length ≤ 20000 := by rw [hyn]; exact Nat.le_trans (List.length_filter_le _ _) (by rw [← strs_len hcs]; exact hcl)
          k_steps
          · dsimp only
            refine TurnEnd.ret ?_
            ((try dsimp only); refine' Back.intro [(ch, W.listOf cvs.toArray ep)] ?Fq24 ?Nq24 ?_; (case Fq24 => k_asm); (case Nq24 => (refine' KStt.news_of ?Xq24 ?Yq24; (case Xq24 => k_asm); (case Yq24 => kstt_sub))))
            refine ⟨[], rfl, rfl, ?_⟩
            rw [due_twice hfi hy (by rw [← hyn]; omega)]; exact IsOpt.some _ _
          · exact TurnEnd.cell (by k_asm) (by k_asm) ho1 ho2 ⟨rfl, ⟨_, ⟨_, by assumption⟩, rfl⟩, find_on hfi hy (badW_no (by rw [← hyn]; omega) (by assumption))⟩
          · dsimp only
            refine TurnEnd.ret ?_
            ((try dsimp only); refine' Back.intro [(ch, W.listOf cvs.toArray ep)] ?Fq25 ?Nq25 ?_; (case Fq25 => k_asm); (case Nq25 => (refine' KStt.news_of ?Xq25 ?Yq25; (case Xq25 => k_asm); (case Yq25 => kstt_sub))))
            refine ⟨[], rfl, rfl, ?_⟩
            rw [due_noword hfi hy (by rw [← hyn]; omega) (by assumption)]; exact IsOpt.some _ _
        case step =>
          intro g6 j z tz ys I6 oI6 C oC D m₂ h6 tk6 E' hz hzl hJ hoC hxx F6 N6 off hne
          clear F4 N4
          k_steps
          · exact LeafEnd.intro (by k_asm) (by k_asm) (fun _ hp => hp) (hJ.yes hz (by assumption))
          · exact LeafEnd.intro (by k_asm) (by k_asm) (fun _ hp => hp) (hJ.no hz (by assumption))
      · rintro gg h tk m' nx ⟨rfl, ⟨o, _, rfl⟩, hfi⟩ F4 N4
        k_steps
        dsimp only
        exact CutEnd.intro (by k_asm) (by k_asm) (by kstt_sub) (due_none hfi)
    · dsimp only
      refine CutEnd.intro (by k_asm) (by k_asm) (by kstt_sub) ?_
      have hc : choiceK kind = false := by assumption
      unfold dueP; rw [hc]; rfl
  intro h3 tk3 hP2 F3 N3
  rw [hP2]
  dsimp only
  clear F2 N2
  cases hov with
  | none =>
    have hm' : hasV mode = false := hm
    have hm' : ([Str.ofString "default", Str.ofString "fixed"].any fun x => x == mode) = false := hm
    k_steps
    ((try dsimp only); refine' Back.intro [(ch, W.listOf cvs.toArray ep)] ?Fq26 ?Nq26 ?_; (case Fq26 => k_asm); (case Nq26 => (refine' KStt.news_of ?Xq26 ?Yq26; (case Xq26 => k_asm); (case Yq26 => kstt_sub))))
    exact ⟨[], rfl, rfl, IsOpt.none⟩
  | some v tv =>
    have hm' : ([Str.ofString "default", Str.ofString "fixed"].any fun x => x == mode) = true := hm
    obtain ⟨hv1, hv2, hv3⟩ := hv v rfl
    k_steps
    · ((try dsimp only); refine' Back.intro [(ch, W.listOf cvs.toArray ep)] ?Fq27 ?Nq27 ?_; (case Fq27 => k_asm); (case Nq27 => (refine' KStt.news_of ?Xq27 ?Yq27; (case Xq27 => k_asm); (case Yq27 => kstt_sub))))
      refine ⟨[], rfl, rfl, ?_⟩
      rw [if_pos (by assumption)]; assumption
    · ((try dsimp only); refine' Back.intro [(ch, W.listOf cvs.toArray ep)] ?Fq28 ?Nq28 ?_; (case Fq28 => k_asm); (case Nq28 => (refine' KStt.news_of ?Xq28 ?Yq28; (case Xq28 => k_asm); (case Yq28 => kstt_sub))))
      refine ⟨[], rfl, rfl, ?_⟩
      rw [if_neg (by simp only [*]; decide)]; assumption
theorem words15_34 : True := by
  k_with "call ref" => (k_here; (with_reducible show wpAny _ _ (call (Value.ref 230) _) _ _ _); k_dflt (refine' use0 (due_does _ _ _ _ _ _ _ _ _ _ _ ?hw1 ?hw2 ?hw3 ?hw4 ?hw5 ?hw6 ?hw7 ?hw8) ?B ?F ?X ?T ?N ?hA ?hh ?hg ?hf ?hke ?hD ?hU ?hn ?_; (case B => k_asm); (case F => k_asm); (case X => k_asm); (case T => k_asm); (case N => k_asm); (case hA => exact rfl); (case hh => exact rfl); (case hg => exact rfl); (case hf => exact rfl); (case hke => exact rfl); (case hD => exact Nat.le_of_ble_eq_true rfl); (case hU => exact Nat.le_of_ble_eq_true rfl); (case hw1 => k_extra "MINE opt"); (case hw2 => assumption); (case hw3 => assumption); (case hw4 => assumption); (case hw5 => assumption); (case hw6 => assumption); (case hw7 => assumption); (case hw8 => assumption); (case hn => k_extra "MINE one"); k_whole); intro v9 h9 tk9 n9 F9 N9 ap9 p9; obtain ⟨hn9, p9⟩ := p9; subst hn9; clear ap9; (try simp only [List.nil_append] at N9); (try k_sweep))
  trivial


section
variable {e : Wd} {f : Addr} {D U : Nat} {vs : List Value} {n : Led} {P : Value → Led → Prop}
  {A A₀ : Around} {base h₀ : Heap} {outer : List Env} {L : Addr} {m : Str → Option Value} {env : Env} {s : Shared} {R : Result → Shared → Prop} {news : Led}
/-- use of a contract where the code stands bare -/
theorem useC (dz : Does e f D U vs n P) (rest : Led) (B : Below A₀ base outer h₀) (F : Fr h₀ L s.heap m) (X : (hd.heap_39 e.w.params).In h₀)
    (T : Top hd.view_39 (looseW hd.view_39 [Str.ofString "_law_kinds"]) e.mean e.mg e.mb h₀) (N : News h₀ L s.heap news)
    (hA : A.frames = some (env :: outer)) (hh : A.handled = none) (hg : A.guards = some []) (hf : env.frame = some L) (hke : env.scope.kind = .function)
    (hD : A.depth ≤ D) (hU : A.units ≤ U)
    (hn : ∀ p ∈ n, p ∈ news) (hr : ∀ p ∈ rest, p ∈ news) (hap : ∀ p ∈ rest, ∀ q ∈ n, p.1 ≠ q.1)
    (k : ∀ v h' tk' n', Fr h₀ L h' m → News h₀ L h' (n' ++ rest) → (∀ p ∈ n', ∀ q ∈ rest, q.1 ≠ p.1) → P v n' → R (.ok (.ret v)) { s with heap := h', toks := tk' }) :
    codeAny (model PySem.Challenge.rw_on0182_01.row.prog e.w) A (.call (.ref f) ⟨vs, []⟩) R s := by
  have Nn : News h₀ L s.heap n := fun p hp => N p (hn p hp)
  have B₁ := pushX B F hf hke
  have nL : L ∉ n.map (·.1) := fun q => by
    obtain ⟨p, hp, e⟩ := List.mem_map.mp q
    exact (Nn p hp).2.1 e
  have nm : ∀ b o, h₀.get? b = some o → b ∉ n.map (·.1) := fun b o e q => by
    obtain ⟨p, hp, rfl⟩ := List.mem_map.mp q
    rw [(Nn p hp).2.2] at e; cases e
  have st : h₀.StaysIn (hideAll s.heap (n.map (·.1))) := fun b o e => hideAll_get _ (F.keep b o e) (nm b o e)
  obtain ⟨oL, es, ep, hL, hLd, hLk, hLf⟩ := F.ns
  have hLg := hideAll_get (n.map (·.1)) hL nL
  have B₂ : Below (ctxA D U (env :: outer)) base (env :: outer) (hideAll s.heap (n.map (·.1))) := by
    refine ⟨rfl, fun b o e => st b o (B.stays b o e), funFrames_hideAll B₁.frames fun env' he b hb hf' => ?_⟩
    cases he with
    | head => exact nL ((Option.some.inj (hf.symm.trans hf') : L = b) ▸ hb)
    | tail _ he =>
      obtain ⟨L₁, o₁, hf₁, ho₁⟩ := funFrames_in B.frames env' he
      rw [hf₁] at hf'
      exact nm L₁ o₁ ho₁ ((Option.some.inj hf' : L₁ = b) ▸ hb)
  have X₂ : (hd.heap_39 e.w.params).In (hideAll s.heap (n.map (·.1))) := X.keeps st
  have T₂ : Top hd.view_39 (looseW hd.view_39 [Str.ofString "_law_kinds"]) e.mean e.mg e.mb (hideAll s.heap (n.map (·.1))) := T.keeps st
  have key := dz base (hideAll s.heap (n.map (·.1))) (env :: outer) s R B₂ X₂ T₂
    (fun b o q => of_hideAll _ q) (Nat.le_of_eq (hideAll_size _ _)) (fun p hp => ⟨(Nn p hp).1, hideAll_none _ (List.mem_map_of_mem hp)⟩) ?_
  · intro Γ p hc hΓ
    exact key Γ p hc (in_le hΓ hh.symm hA.symm hg.symm hD hU)
  · intro v h' tk' n' st' hn' p
    have hrest : ∀ q ∈ rest, (hideAll s.heap (n.map (·.1))).get? q.1 = some q.2 := fun q hq => hideAll_get _ (N q (hr q hq)).1 fun hm => by
      obtain ⟨x, hx, e⟩ := List.mem_map.mp hm
      exact hap q hq x hx e.symm
    refine k v h' tk' n' ⟨⟨oL, es, ep, st' L oL hLg, hLd, hLk, hLf⟩, fun b o e => st' b o (st b o e), F.above⟩ (fun q hq => ?_) (fun x hx q hq e => ?_) p
    · rcases List.mem_append.mp hq with hq | hq
      · refine ⟨(hn' q hq).1, fun e => ?_, ?_⟩
        · have := (hn' q hq).2; rw [e, hLg] at this; cases this
        · cases z : h₀.get? q.1 with
          | none => rfl
          | some o => have := (hn' q hq).2; rw [st _ _ z] at this; cases this
      · exact ⟨st' _ _ (hrest q hq), (N q (hr q hq)).2⟩
    · have := (hn' x hx).2
      rw [← e, hrest q hq] at this; cases this
end
abbrev tupO (vs : List Value) : Obj := { cls := .type "tuple", data := .seq vs.toArray }
theorem tuple_ls {prog : Program} {w : World} {A : Around} {E : Value → Shared → Prop} {s : Shared} {h₀ : Heap} {L l : Addr} {m : Str → Option Value} {news : Led} {vs : List Value} {Q : Value → Shared → Prop} (F : Fr h₀ L s.heap m) (N : News h₀ L s.heap news)
    (hl : s.heap.IsList l vs.toArray) (hsz : vs.length ≤ 3000)
    (h : ∀ a h', Fr h₀ L h' m → News h₀ L h' ((a, tupO vs) :: news) → (∀ p ∈ news, p.1 < a) → Q (.ref a) { s with heap := h' }) : wpAny (model prog w) A (call (.type "tuple") [.ref l]) Q E s := by
  refine call_tuple_list hl (fun h' hk => ?_) (by rw [List.size_toArray, PySem.sizeLine_eq]; omega)
  have F' : Fr h₀ L h' m := F.keeps hk
  have N' : News h₀ L h' news := fun p hp => ⟨hk _ _ (N p hp).1, (N p hp).2⟩
  exact h _ _ (F'.push _) (N'.push F' _) fun p hp => Heap.lt_size (N' p hp).1
theorem words16_35 : True := by
  k_with "call type:tuple" => (k_here; (with_reducible show wpAny _ _ (call (Value.type _) [Value.ref _]) _ _ _); k_dflt (refine' tuple_ls ?F ?N ?hw1 ?hw2 ?_; (case F => k_asm); (case N => k_asm); (case hw1 => k_extra "MINE lst"); (case hw2 => (first | assumption | omega)); k_whole); intro a9 h9 F9 N9 l9; (try k_lt l9); (try k_sweep))
  trivial

@[reducible] def ruleD (pp : Params) (u1 u2 u3 u4 : Tok) (kind : Str) (tk : Tok) (t : Addr) (mode : Str) (tm : Tok) (vv : Value) : Obj :=
  dictOf [{ hash := PyData.keyHash pp (Str.ofString "kind"), key := .str (Str.ofString "kind") u1, val := .str kind tk }, { hash := PyData.keyHash pp (Str.ofString "choices"), key := .str (Str.ofString "choices") u2, val := .ref t },
    { hash := PyData.keyHash pp (Str.ofString "mode"), key := .str (Str.ofString "mode") u3, val := .str mode tm }, { hash := PyData.keyHash pp (Str.ofString "value"), key := .str (Str.ofString "value") u4, val := vv }] 4
theorem init_back {pp : Params} {g h : Heap} {L : Addr} {m : Str → Option Value} {s0 : Shared} {tk9 : Nat} {x dx ch a : Nat} {kind mode : Str} {tk tm : Tok} {vv : Value} {cvs : List Value} {ep : Nat} {u1 u2 u3 u4 : Tok} (F : Fr g L h m)
    (N : News g L h [(a, tupO cvs), (x, instObj 126 dx), (dx, ruleD pp u1 u2 u3 u4 kind tk a mode tm vv), (ch, W.listOf cvs.toArray ep)]) (hx : x < a) :
    Back g L (fun v n' => v = .none ∧ ∃ (t : Nat) (u1 u2 u3 u4 : Tok), x < t ∧ n' = [(x, instObj 126 dx), (dx, ruleD pp u1 u2 u3 u4 kind tk t mode tm vv), (t, tupO cvs), (ch, W.listOf cvs.toArray ep)]) s0 .none { s0 with heap := h, toks := tk9 } := by
  refine Back.intro [(x, instObj 126 dx), (dx, ruleD pp u1 u2 u3 u4 kind tk a mode tm vv), (a, tupO cvs), (ch, W.listOf cvs.toArray ep)] F (KStt.news_of N (by kstt_sub)) ⟨rfl, a, u1, u2, u3, u4, hx, rfl⟩
theorem init_does (e : Wd) (x dx ch : Nat) (kind mode : Str) (tk tm : Tok) (vv : Value) (cvs : List Value) (ep : Nat) (h1 : dx < x) (h2 : ch < dx) (hcl : cvs.length ≤ 3000) :
    Does e 109 390 450 [.ref x, .str kind tk, .ref ch, .str mode tm, vv] [(x, instObj 126 dx), (dx, dictOf [] 0), (ch, W.listOf cvs.toArray ep)]
      (fun v n' => v = .none ∧ ∃ (t : Nat) (u1 u2 u3 u4 : Tok), x < t ∧ n' = [(x, instObj 126 dx), (dx, ruleD e.w.params u1 u2 u3 u4 kind tk t mode tm vv), (t, tupO cvs), (ch, W.listOf cvs.toArray ep)]) := by
  k_dflt (refine' enter (binds := [(Str.ofString "self", .ref x), (Str.ofString "kind", .str kind tk), (Str.ofString "choices", .ref ch), (Str.ofString "mode", .str mode tm), (Str.ofString "value", vv)]) ?k6 ?k7 ?k8 ?k9 ?kB ?_ ?c5 ?c2 ?c3 ?c4; (case k6 => k_is); (case k7 => k_is); (case k8 => decide); (case k9 => intro s; exact BindsTo.of_eq rfl); (case kB => exact locs rfl); (case c5 => decide); (case c2 => exact rfl); (case c3 => exact rfl); (case c4 => exact rfl); k_whole; intro base g envs s0 L' h' tk' B' X' T' F' N' l1; (try k_lt l1); (try dsimp only [List.reverse, List.reverseAux] at F'); (try dsimp only); (try k_fold))
  k_steps
  exact init_back (by k_asm) (by k_asm) l9.1
section
variable {e : Wd} {A A₀ : Around} {base h₀ : Heap} {outer : List Env} {L : Addr} {m : Str → Option Value} {env : Env} {s : Shared} {Q E : Value → Shared → Prop} {news : Led}
theorem make_rule {kind mode : Str} {tk tm : Tok} {vv : Value} {ch : Nat} {cvs : List Value} {ep : Nat} (B : Below A₀ base outer h₀) (F : Fr h₀ L s.heap m) (X : (hd.heap_39 e.w.params).In h₀)
    (T : Top hd.view_39 (looseW hd.view_39 [Str.ofString "_law_kinds"]) e.mean e.mg e.mb h₀) (N : News h₀ L s.heap news)
    (hA : A.frames = some (env :: outer)) (hh : A.handled = none) (hg : A.guards = some []) (hf : env.frame = some L) (hke : env.scope.kind = .function)
    (hD : A.depth ≤ 380) (hU : A.units ≤ 440) (hch : (ch, W.listOf cvs.toArray ep) ∈ news) (hcl : cvs.length ≤ 3000)
    (k : ∀ (x dx t : Nat) (u1 u2 u3 u4 : Tok) h' tk', Fr h₀ L h' m → News h₀ L h' ((x, instObj 126 dx) :: (dx, ruleD e.w.params u1 u2 u3 u4 kind tk t mode tm vv) :: (t, tupO cvs) :: news) → (∀ p ∈ news, p.1 < dx) → (∀ p ∈ news, p.1 < t) → dx < x → x < t → Q (.ref x) { s with heap := h', toks := tk' }) :
    wpAny (model PySem.Challenge.rw_on0182_01.row.prog e.w) A (call (.ref 126) [.str kind tk, .ref ch, .str mode tm, vv]) Q E s := by
  refine call_cls F X N (by k_is) (by k_is) (by k_is) fun x dx h1 F1 N1 l1 l2 => ?_
  have hcx : ch < dx := l1 _ hch
  have hne : ∀ p ∈ news, ∀ q : Addr × Obj, q ∈ [(x, instObj 126 dx), (dx, dictOf [] 0)] → p.1 ≠ q.1 := fun p hp q hq e => by
    have := l1 p hp
    rcases List.mem_cons.mp hq with rfl | hq
    · have h3 : p.1 = x := e
      have h4 : (p.1 : Nat) < dx := this
      have h5 : (dx : Nat) < x := l2
      rw [h3] at h4; exact absurd (Nat.lt_trans h4 h5) (Nat.lt_irrefl _)
    · rw [List.mem_singleton.mp hq] at e
      have h3 : p.1 = dx := e
      rw [h3] at this; exact absurd this (Nat.lt_irrefl _)
  refine useC (init_does e x dx ch kind mode tk tm vv cvs ep l2 hcx hcl) (news.filter fun p => !(p.1 == ch)) B F1 X T N1 hA hh hg hf hke ?_ ?_ ?_ ?_ ?_ ?_
  · exact Nat.le_trans (Nat.add_le_add_right hD _) (Nat.le_of_ble_eq_true rfl)
  · exact Nat.le_trans (Nat.add_le_add_right hU _) (Nat.le_of_ble_eq_true rfl)
  · intro p hp
    rcases List.mem_cons.mp hp with rfl | hp
    · exact .head _
    · rcases List.mem_cons.mp hp with rfl | hp
      · exact .tail _ (.head _)
      · rw [List.mem_singleton.mp hp]; exact .tail _ (.tail _ hch)
  · exact fun p hp => .tail _ (.tail _ (List.mem_filter.mp hp).1)
  · intro p hp q hq
    have hp' := List.mem_filter.mp hp
    rcases List.mem_cons.mp hq with rfl | hq
    · exact hne p hp'.1 _ (.head _)
    · rcases List.mem_cons.mp hq with rfl | hq
      · exact hne p hp'.1 _ (.tail _ (.head _))
      · rw [List.mem_singleton.mp hq]
        have := hp'.2
        simpa using this
  · rintro v h' tk' n' F' N' ap ⟨rfl, t, u1, u2, u3, u4, hxt, rfl⟩
    refine ⟨rfl, ?_⟩
    have lt : ∀ p ∈ news, (p.1 : Nat) < t := fun p hp => by
      have h4 : (p.1 : Nat) < dx := l1 p hp
      have h5 : (dx : Nat) < x := l2
      exact Nat.lt_trans h4 (Nat.lt_trans h5 hxt)
    refine k x dx t u1 u2 u3 u4 h' tk' F' (fun p hp => ?_) l1 lt l2 hxt
    rcases List.mem_cons.mp hp with rfl | hp
    · exact N' _ (.head _)
    · rcases List.mem_cons.mp hp with rfl | hp
      · exact N' _ (.tail _ (.head _))
      · rcases List.mem_cons.mp hp with rfl | hp
        · exact N' _ (.tail _ (.tail _ (.head _)))
        · by_cases hc : p.1 = ch
          · have h1 := (N p hp).1
            have h2 := (N _ hch).1
            rw [hc] at h1
            have : p = (ch, W.listOf cvs.toArray ep) := Prod.ext hc (Option.some.inj (h1.symm.trans h2))
            exact this ▸ N' _ (.tail _ (.tail _ (.tail _ (.head _))))
          · exact N' _ (List.mem_append_right _ (List.mem_filter.mpr ⟨hp, by simpa using hc⟩))
end

theorem words17_36 : True := by
  k_with "exec For Name Name cons nil" => ((rename HandTurns => hHT); k_here; (rename Fr _ _ _ _ => lF'); (with_unfolding_all refine' For_turns lF' ?_; k_whole))
  k_with "exec For Name Attribute cons nil" => ((rename HandTurns => hHT); k_here; (rename Fr _ _ _ _ => lF'); (with_unfolding_all refine' For_turns lF' ?_; k_whole))
  k_with "exec For Name Call cons nil" => ((rename HandTurns => hHT); k_here; (rename Fr _ _ _ _ => lF'); (with_unfolding_all refine' For_turns lF' ?_; k_whole))
  trivial

theorem fit_no2 {p : Str → Bool} {kind v : Str} {cs : List Str} (h : (kind == Str.ofString "CDATA") = false) (h2 : choiceK kind = false) (h4 : decide (wordsOf kind v = []) = true) : fitC2 p kind cs v = some (Str.ofString "has no word") := by
  unfold fitC2; rw [if_neg (by rw [h]; decide), if_neg (by rw [h2]; decide), if_pos (of_decide_eq_true h4)]
theorem wordsOf_le2 {k x : Str} (h : x.length ≤ 1000) : ∀ y ∈ wordsOf k x, y.length ≤ 20000 := wordsOf_le h
theorem var_off {m : Str → Option Value} {x : Str} (h : m x = none) : m = fun y => if y = x then none else m y := by
  funext y
  by_cases e : y = x
  · rw [if_pos e, e, h]
  · rw [if_neg e]
theorem var_twice {m : Str → Option Value} {x : Str} {v o : Option Value} : (fun y => if y = x then v else if y = x then o else m y) = fun y => if y = x then v else m y := by
  funext y
  by_cases e : y = x
  · rw [if_pos e, if_pos e]
  · rw [if_neg e, if_neg e, if_neg e]
theorem filt_on {c : Str → Bool} {l : List Str} {i : Nat} {y : Str} (h : (l.take i).filter c = []) (hy : l[i]? = some y) (hc : c y = false) : (l.take (i + 1)).filter c = [] := by
  rw [List.take_add_one, hy, List.filter_append, h]
  simp [hc]
theorem filt_bad {c : Str → Bool} : ∀ {l : List Str} {i : Nat} {y : Str}, (l.take i).filter c = [] → l[i]? = some y → c y = true → ∃ r, l.filter c = y :: r
  | a :: r, 0, y, _, hy, hc => by simp at hy; subst hy; exact ⟨_, List.filter_cons_of_pos hc⟩
  | a :: r, i + 1, y, h, hy, hc => by
    rw [List.take_succ_cons, List.filter_cons] at h
    split at h
    · cases h
    · rw [List.filter_cons_of_neg (by assumption)]
      exact filt_bad h (by simpa using hy) hc
theorem fit_bad2 {p : Str → Bool} {kind v y : Str} {cs : List Str} {i : Nat} (h : (kind == Str.ofString "CDATA") = false) (h2 : choiceK kind = false) (h4 : decide (wordsOf kind v = []) = false)
    (hf : ((wordsOf kind v).take i).filter (fun x => !p x) = []) (hy : (wordsOf kind v)[i]? = some y) (hb : p y = false) :
    fitC2 p kind cs v = some (Str.ofString "has a word that is none of kind " ++ kind ++ Str.ofString ": " ++ y) := by
  obtain ⟨r, hr⟩ := filt_bad (c := fun x => !p x) hf hy (by simp [hb])
  unfold fitC2; rw [if_neg (by rw [h]; decide), if_neg (by rw [h2]; decide), if_neg (of_decide_eq_false h4), hr]
theorem fit_none2 {p : Str → Bool} {kind v : Str} {cs : List Str} (h : (kind == Str.ofString "CDATA") = false) (h2 : choiceK kind = false) (h4 : decide (wordsOf kind v = []) = false)
    (hf : ((wordsOf kind v).take (wordsOf kind v).length).filter (fun x => !p x) = []) : fitC2 p kind cs v = none := by
  rw [List.take_length] at hf
  unfold fitC2; rw [if_neg (by rw [h]; decide), if_neg (by rw [h2]; decide), if_neg (of_decide_eq_false h4), hf]
theorem fits_does (e : Wd) (x dx t : Nat) (kind mode v : Str) (qk tm tv u1 u2 u3 u4 : Tok) (cvs : List Value) (cs : List Str) (ov : Option Str) (vv : Value) (hd : dx < x) (hxt : @Ne Nat x t ∧ @Ne Nat dx t) (hov : IsOpt ov vv) (hm : hasV mode = ov.isSome) (hcs : StrsAre cvs cs) (hl : Light cs) (hk : kind.length ≤ 20) (hv : v.length ≤ 1000) (hva : Asc v)
    (hf : ∀ f, ov = some f → f.length ≤ 1000) :
    Does e 158 320 150 [.ref x, .str v tv] [(x, instObj 126 dx), (dx, ruleD e.w.params u1 u2 u3 u4 kind qk t mode tm vv), (t, tupO cvs)]
      (fun r n' => ∃ n'', n' = n'' ++ [(x, instObj 126 dx), (dx, ruleD e.w.params u1 u2 u3 u4 kind qk t mode tm vv), (t, tupO cvs)] ∧ n'' = [] ∧ IsOpt (fitC (wordC kind) kind cs (if (mode == Str.ofString "fixed") = true then ov else none) v) r) := by
  k_dflt (refine' enter (binds := [(Str.ofString "rule", .ref x), (Str.ofString "value", .str v tv)]) ?k6 ?k7 ?k8 ?k9 ?kB ?_ ?c5 ?c2 ?c3 ?c4; (case k6 => k_is); (case k7 => k_is); (case k8 => decide); (case k9 => intro s; exact BindsTo.of_eq rfl); (case kB => exact locs rfl); (case c5 => decide); (case c2 => exact rfl); (case c3 => exact rfl); (case c4 => exact rfl); k_whole; intro base g envs s0 L' h' tk' B' X' T' F' N' l1; (try k_lt l1); (try dsimp only [List.reverse, List.reverseAux] at F'); (try dsimp only); (try k_fold))
  obtain ⟨hxt, hdt⟩ := hxt
  have hHI : HandIf := ⟨trivial⟩
  k_steps
  unfold Stopped
  clear hHI
  refine' cutE (fixOff (if (mode == Str.ofString "fixed") = true then ov else none) v = none) [(x, instObj 126 dx), (dx, ruleD e.w.params u1 u2 u3 u4 kind qk t mode tm vv), (t, tupO cvs)] ?Fa ?_ ?_
  case Fa => k_asm
  · cases hov with
    | none =>
      have hm1 : (mode == Str.ofString "fixed") = false := by
        have hm' : ([Str.ofString "default", Str.ofString "fixed"].any fun x => x == mode) = false := hm
        simp only [List.any_cons, List.any_nil, Bool.or_false, Bool.or_eq_false_iff] at hm'
        have h2 := hm'.2
        rw [beq_eq_false_iff_ne] at h2 ⊢
        exact fun h => h2 h.symm
      k_steps
      dsimp only
      exact CutEnd.intro (by k_asm) (by k_asm) (fun _ hp => hp) (by rw [if_neg (by rw [hm1]; decide)]; rfl)
    | some f tf =>
      have hfl : f.length ≤ 1000 := hf f rfl
      k_steps
      · ((try dsimp only); refine' Back.intro [(x, instObj 126 dx), (dx, ruleD e.w.params u1 u2 u3 u4 kind qk t mode tm (.str f tf)), (t, tupO cvs)] ?Fq29 ?Nq29 ?_; (case Fq29 => k_asm); (case Nq29 => (refine' KStt.news_of ?Xq29 ?Yq29; (case Xq29 => k_asm); (case Yq29 => kstt_sub))))
        refine ⟨[], rfl, rfl, ?_⟩
        have e1 : fixOff (some f) v = some f := by unfold fixOff; simp only [*, if_true]
        rw [if_pos (by assumption)]
        unfold fitC; rw [e1]; exact IsOpt.some _ _
      · dsimp only
        refine CutEnd.intro (by k_asm) (by k_asm) (fun _ hp => hp) ?_
        rw [if_pos (by assumption)]
        unfold fixOff; simp only [*, Bool.false_eq_true, if_false]
      · dsimp only
        have hm1 : (mode == Str.ofString "fixed") = false := by assumption
        exact CutEnd.intro (by k_asm) (by k_asm) (fun _ hp => hp) (by rw [if_neg (by rw [hm1]; decide)]; rfl)
  · intro h2 tk2 hoff F2 N2
    clear F' N'
    have e0 : fitC (wordC kind) kind cs (if (mode == Str.ofString "fixed") = true then ov else none) v = fitC2 (wordC kind) kind cs v := by unfold fitC; rw [hoff]
    rw [e0]
    have hHT : HandTurns := ⟨trivial⟩
    k_steps
    · ((try dsimp only); refine' Back.intro [(x, instObj 126 dx), (dx, ruleD e.w.params u1 u2 u3 u4 kind qk t mode tm vv), (t, tupO cvs)] ?Fq30 ?Nq30 ?_; (case Fq30 => k_asm); (case Nq30 => (refine' KStt.news_of ?Xq30 ?Yq30; (case Xq30 => k_asm); (case Yq30 => kstt_sub))))
      refine ⟨[], rfl, rfl, ?_⟩; k_extra "MINE fit"
    · ((try dsimp only); refine' Back.intro [(x, instObj 126 dx), (dx, ruleD e.w.params u1 u2 u3 u4 kind qk t mode tm vv), (t, tupO cvs)] ?Fq31 ?Nq31 ?_; (case Fq31 => k_asm); (case Nq31 => (refine' KStt.news_of ?Xq31 ?Yq31; (case Xq31 => k_asm); (case Yq31 => kstt_sub))))
      refine ⟨[], rfl, rfl, ?_⟩; k_extra "MINE fit"
    · ((try dsimp only); refine' Back.intro [(x, instObj 126 dx), (dx, ruleD e.w.params u1 u2 u3 u4 kind qk t mode tm vv), (t, tupO cvs)] ?Fq32 ?Nq32 ?_; (case Fq32 => k_asm); (case Nq32 => (refine' KStt.news_of ?Xq32 ?Yq32; (case Xq32 => k_asm); (case Yq32 => kstt_sub))))
      refine ⟨[], rfl, rfl, ?_⟩; k_extra "MINE fit"
    · ((try dsimp only); refine' Back.intro [(x, instObj 126 dx), (dx, ruleD e.w.params u1 u2 u3 u4 kind qk t mode tm vv), (t, tupO cvs)] ?Fq33 ?Nq33 ?_; (case Fq33 => k_asm); (case Nq33 => (refine' KStt.news_of ?Xq33 ?Yq33; (case Xq33 => k_asm); (case Yq33 => kstt_sub))))
      refine ⟨[], rfl, rfl, ?_⟩
      rw [fit_no2 (by assumption) (by assumption) (by assumption)]; exact IsOpt.some _ _
    unfold Stopped
    clear hHT
    refine' turns_list (news := (a9, W.listOf vs9.toArray ep9) :: [(x, instObj 126 dx), (dx, ruleD e.w.params u1 u2 u3 u4 kind qk t mode tm vv), (t, tupO cvs)]) rfl ?mc hv9 ?Fc ?Nc (fun i m₁ nx => (∃ o, m₁ = (fun y => if y = Str.ofString "word" then o else if y = Str.ofString "words" then some (.ref a9) else List.lookup y [(Str.ofString "value", .str v tv), (Str.ofString "rule", .ref x)])) ∧ nx = ((a9, W.listOf vs9.toArray ep9) :: [(x, instObj 126 dx), (dx, ruleD e.w.params u1 u2 u3 u4 kind qk t mode tm vv), (t, tupO cvs)]) ∧ ((wordsOf kind v).take i).filter (fun x => !wordC kind x) = []) ⟨⟨none, var_off rfl⟩, rfl, rfl⟩ ?_ ?_ ?_
    case Fc => k_asm
    case Nc => (refine' KStt.news_of ?Xc ?Yc; (case Xc => k_asm); (case Yc => kstt_sub))
    case mc => k_mem
    · rintro i m₁ nx ⟨_, rfl, _⟩; k_mem
    · rintro gg i y ty m₁ nx h tk I oI hy hyc ⟨⟨o, rfl⟩, rfl, hfi⟩ hoff F4 N4
      have hyl := wordsOf_le2 hv y hyc
      have hya := wordsOf_asc (k := kind) hva y hyc
      have ho1 : @Ne Nat a9 I := hoff _ List.mem_cons_self
      have ho2 : @Ne Nat x I := hoff _ (List.mem_cons_of_mem _ List.mem_cons_self)
      have ho3 : @Ne Nat dx I := hoff _ (List.mem_cons_of_mem _ (List.mem_cons_of_mem _ List.mem_cons_self))
      have ho4 : @Ne Nat t I := hoff _ (List.mem_cons_of_mem _ (List.mem_cons_of_mem _ (List.mem_cons_of_mem _ List.mem_cons_self)))
      k_steps
      · exact TurnEnd.next ((a9, W.listOf vs9.toArray ep9) :: [(x, instObj 126 dx), (dx, ruleD e.w.params u1 u2 u3 u4 kind qk t mode tm vv), (t, tupO cvs)]) (by k_asm) (by k_asm) (by kstt_sub) hoff ⟨⟨some (.str y ty), var_twice⟩, rfl, filt_on hfi hy (by simp [*])⟩
      · dsimp only
        refine TurnEnd.ret ?_
        ((try dsimp only); refine' Back.intro [(x, instObj 126 dx), (dx, ruleD e.w.params u1 u2 u3 u4 kind qk t mode tm vv), (t, tupO cvs)] ?Fq34 ?Nq34 ?_; (case Fq34 => k_asm); (case Nq34 => (refine' KStt.news_of ?Xq34 ?Yq34; (case Xq34 => k_asm); (case Yq34 => kstt_sub))))
        refine ⟨[], rfl, rfl, ?_⟩
        rw [fit_bad2 (by assumption) (by assumption) (by assumption) hfi hy (by assumption)]; exact IsOpt.some _ _
    · rintro gg h tk m' nx ⟨⟨o, rfl⟩, rfl, hfi⟩ F4 N4
      k_steps
      ((try dsimp only); refine' Back.intro [(x, instObj 126 dx), (dx, ruleD e.w.params u1 u2 u3 u4 kind qk t mode tm vv), (t, tupO cvs)] ?Fq35 ?Nq35 ?_; (case Fq35 => k_asm); (case Nq35 => (refine' KStt.news_of ?Xq35 ?Yq35; (case Xq35 => k_asm); (case Yq35 => kstt_sub))))
      refine ⟨[], rfl, rfl, ?_⟩
      rw [fit_none2 (by assumption) (by assumption) (by assumption) hfi]; exact IsOpt.none
theorem words17_37 : True := by
  k_with "call ref" => (k_here; (with_reducible show wpAny _ _ (call (Value.ref 158) _) _ _ _); k_dflt (refine' use0 (fits_does _ _ _ _ _ _ _ _ _ _ _ _ _ _ _ _ _ _ ?hw1 ?hw2 ?hw3 ?hw4 ?hw5 ?hw6 ?hw7 ?hw8 ?hw9 ?hw10) ?B ?F ?X ?T ?N ?hA ?hh ?hg ?hf ?hke ?hD ?hU ?hn ?_; (case B => k_asm); (case F => k_asm); (case X => k_asm); (case T => k_asm); (case N => k_asm); (case hA => exact rfl); (case hh => exact rfl); (case hg => exact rfl); (case hf => exact rfl); (case hke => exact rfl); (case hD => exact Nat.le_of_ble_eq_true rfl); (case hU => exact Nat.le_of_ble_eq_true rfl); (case hn => k_extra "MINE three"); (case hw1 => assumption); (case hw2 => k_extra "MINE apart"); (case hw3 => k_extra "MINE opt"); (case hw4 => assumption); (case hw5 => assumption); (case hw6 => assumption); (case hw7 => assumption); (case hw8 => assumption); (case hw9 => assumption); (case hw10 => (intro f9 hf9; first | (cases hf9; done) | (cases hf9; first | assumption | omega))); k_whole); intro v9 h9 tk9 n9 F9 N9 ap9 p9; obtain ⟨hn9, p9⟩ := p9; subst hn9; clear ap9; (try simp only [List.nil_append] at N9); (try k_sweep))
  k_with "MINE apart" => first | exact ⟨by assumption, by assumption⟩ | (constructor <;> exact Nat.ne_of_lt (by omega)) | (constructor <;> exact Nat.ne_of_gt (by omega))
  k_with "MINE three" => (intro p9 hp9; rcases List.mem_cons.mp hp9 with rfl | hp9; k_mem; rcases List.mem_cons.mp hp9 with rfl | hp9; k_mem; rw [List.mem_singleton.mp hp9]; k_mem)
  trivial


theorem word_agree {kind w : Str} (hk : choiceK kind = false) (hg : Good w) : wordC kind w = lwordC kind w := by
  unfold wordC lwordC
  have h1 : inL [Str.ofString "NMTOKEN", Str.ofString "NMTOKENS", Str.ofString "enumeration"] kind = inL [Str.ofString "NMTOKEN", Str.ofString "NMTOKENS"] kind := by
    unfold choiceK at hk
    simp only [inL, List.any_cons, List.any_nil, Bool.or_false, Bool.or_eq_false_iff] at *
    rw [hk.1, Bool.or_false]
  rw [h1, hg.1, hg.2]
theorem told_words {kind v : Str} (h1 : (kind == Str.ofString "CDATA") = false) (hv : ∀ w ∈ splitL v, w ∈ keysT) : ∀ w ∈ wordsOf kind (told kind v), Good w := by
  have e : told kind v = joinS (splitL v) := by unfold told; rw [if_neg (by intro h; rw [h] at h1; exact absurd h1 (by decide))]
  rw [e]
  unfold wordsOf
  split
  · rw [split_join]; exact fun w hw => good_key (hv w hw)
  · intro w hw; rw [List.mem_singleton.mp hw]; exact join_good hv
theorem fit_agree {kind v : Str} {cs : List Str} {fx : Option Str} (hv : ∀ w ∈ splitL v, w ∈ keysT) : fitC (wordC kind) kind cs fx (told kind v) = fitC (lwordC kind) kind cs fx (told kind v) := by
  unfold fitC
  cases fixOff fx (told kind v) with
  | some f => rfl
  | none =>
    show fitC2 _ _ _ _ = fitC2 _ _ _ _
    unfold fitC2
    cases h1 : (kind == Str.ofString "CDATA") with
    | true => simp only [if_true]
    | false =>
      simp only [Bool.false_eq_true, if_false]
      cases h2 : choiceK kind with
      | true => simp only [if_true]
      | false =>
        simp only [Bool.false_eq_true, if_false]
        have hw := told_words h1 hv
        have e : (wordsOf kind (told kind v)).filter (fun x => !wordC kind x) = (wordsOf kind (told kind v)).filter (fun x => !lwordC kind x) :=
          List.filter_congr fun x hx => by rw [word_agree h2 (hw x hx)]
        rw [e]
/-- what rule_fault asks of a word that is a choice -/
def pickC (kind w : Str) : Bool := wordC (if (kind == Str.ofString "enumeration") = true then Str.ofString "NMTOKEN" else Str.ofString "ID") w
theorem pick_agree {kind w : Str} (hk : choiceK kind = true) (hg : Good w) : pickC kind w = lwordC kind w := by
  unfold pickC lwordC wordC
  unfold choiceK at hk
  cases h : (kind == Str.ofString "enumeration") with
  | true =>
    have e : kind = Str.ofString "enumeration" := eq_of_beq h
    subst e
    rw [if_pos rfl, if_pos (by decide), if_pos (by decide)]
    exact hg.1
  | false =>
    have e : kind = Str.ofString "notation" := by
      have h3 : (Str.ofString "enumeration" == kind) = false := by rw [beq_eq_false_iff_ne] at h ⊢; exact fun q => h q.symm
      simp only [inL, List.any_cons, List.any_nil, Bool.or_false, h3, Bool.false_or] at hk
      exact (eq_of_beq hk).symm
    subst e
    rw [if_neg (by decide), if_neg (by decide)]
    exact hg.2
theorem find_congr {p q : Str → Bool} : ∀ {l : List Str}, (∀ x ∈ l, p x = q x) → l.find? p = l.find? q
  | [], _ => rfl
  | a :: r, h => by
    rw [List.find?_cons, List.find?_cons, h a List.mem_cons_self, find_congr fun x hx => h x (List.mem_cons_of_mem _ hx)]
theorem due_agree {kind : Str} {cs : List Str} {fixed : Bool} {ov : Option Str} (hc : ∀ w ∈ cs, w ∈ keysT) (hv : ∀ v, ov = some v → ∀ w ∈ splitL v, w ∈ keysT) :
    dueC (pickC kind) (wordC kind) kind cs fixed ov = dueC (lwordC kind) (lwordC kind) kind cs fixed ov := by
  have e : (if choiceK kind = true then (if cs = [] then some (Str.ofString "there is nothing to choose") else dueW (pickC kind) cs) else none) = (if choiceK kind = true then (if cs = [] then some (Str.ofString "there is nothing to choose") else dueW (lwordC kind) cs) else none) := by
    cases h2 : choiceK kind with
    | false => rfl
    | true =>
      rw [if_pos rfl, if_pos rfl]
      have : dueW (pickC kind) cs = dueW (lwordC kind) cs := by
        unfold dueW
        rw [find_congr fun x hx => by rw [pick_agree h2 (good_key (hc x hx))]]
      rw [this]
  unfold dueC
  rw [e]
  cases ov with
  | none => rfl
  | some v =>
    have e2 := @fit_agree kind v cs (if fixed = true then some v else none) (hv v rfl)
    dsimp only
    rw [e2]

/-- a value that the law draws -/
def ValOk (x : Str) : Prop := x.length ≤ 900 ∧ Asc x ∧ ∀ w ∈ splitL x, w ∈ keysT
theorem told_len {kind x : Str} : (told kind x).length ≤ x.length + 1 := by
  unfold told
  split
  · omega
  · have hm := fold_mass x.cps.toList ([], [])
    have h0 : massW ([], []) = 0 := rfl
    have hlen : x.cps.toList.length = x.length := len_list x
    have hw : ((words0 x.cps.toList).map (·.length)).sum + (words0 x.cps.toList).length ≤ x.length + 1 := by
      have hm' : massW (runs x.cps.toList) ≤ x.length := by unfold runs; omega
      unfold massW at hm'
      unfold words0
      split
      · omega
      · simp only [List.map_append, List.sum_append, List.map_cons, List.map_nil, List.sum_cons, List.sum_nil, List.length_append, List.length_cons, List.length_nil]; omega
    have h3 := joinN_len (words0 x.cps.toList)
    rw [← map_mk, ← join_cps, len_list, map_mk] at h3
    omega
theorem told_asc {kind x : Str} (h : Asc x) : Asc (told kind x) := by
  unfold told
  split
  · exact h
  · exact join_asc (split_asc h)
theorem val_told {kind x : Str} (h : ValOk x) : x.length ≤ 1000 ∧ (told kind x).length ≤ 1000 ∧ Asc (told kind x) := by
  have := @told_len kind x
  have := h.1
  exact ⟨by omega, by omega, told_asc h.2.1⟩
theorem keys_light : ∀ {cs : List Str}, (∀ w ∈ cs, w ∈ keysT) → (cs.map (·.length)).sum ≤ 5 * cs.length
  | [], _ => Nat.le_refl _
  | c :: r, h => by
    have h1 := (key_facts c (h c List.mem_cons_self)).2.1
    have h2 := keys_light fun w hw => h w (List.mem_cons_of_mem _ hw)
    simp only [List.map_cons, List.sum_cons, List.length_cons]; omega
theorem light_keys {cs : List Str} (h : ∀ w ∈ cs, w ∈ keysT) (hl : cs.length ≤ 3000) : Light cs := by
  have := keys_light h
  unfold Light; omega
theorem asc_key {w : Str} (h : w ∈ keysT) : Asc w := fun c hc => ((key_facts w h).1 c hc).2
theorem keys_asc {cs : List Str} (h : ∀ w ∈ cs, w ∈ keysT) : ∀ w ∈ cs, Asc w := fun w hw => asc_key (h w hw)

/-- a value under way: between words, or behind one -/
def Pre (x : Str) : Prop := (∀ w ∈ (runs x.cps.toList).1, mkS w ∈ keysT) ∧ (runs x.cps.toList).2 = []
def Mid (x : Str) : Prop := (∀ w ∈ (runs x.cps.toList).1, mkS w ∈ keysT) ∧ mkS (runs x.cps.toList).2 ∈ keysT
theorem cps_app (a b : Str) : (a ++ b).cps.toList = a.cps.toList ++ b.cps.toList := by rw [Str.cps_append, Array.toList_append]
theorem mk_nil : mkS [] ∈ keysT := by decide
theorem Pre.mid {x : Str} (h : Pre x) : Mid x := ⟨h.1, by rw [h.2]; exact mk_nil⟩
theorem Pre.nil {x : Str} (h : Pre x) : Pre (x ++ Str.ofString "") := by
  have e : (x ++ Str.ofString "").cps.toList = x.cps.toList := by rw [cps_app]; exact List.append_nil _
  unfold Pre; rw [e]; exact h
theorem Mid.nil {x : Str} (h : Mid x) : Mid (x ++ Str.ofString "") := by
  have e : (x ++ Str.ofString "").cps.toList = x.cps.toList := by rw [cps_app]; exact List.append_nil _
  unfold Mid; rw [e]; exact h
theorem mk_cps (w : Str) : mkS w.cps.toList = w := PySem.Str.ext' (by simp [mkS])
theorem Pre.word {x w : Str} (h : Pre x) (hw : w ∈ keysT) : Mid (x ++ w) := by
  unfold Mid
  rw [cps_app, runs_app, fold_word _ _ fun c hc => ((key_facts w hw).1 c hc).1]
  refine ⟨h.1, ?_⟩
  show mkS ((runs x.cps.toList).2 ++ w.cps.toList) ∈ keysT
  rw [h.2, List.nil_append, mk_cps]; exact hw
theorem Mid.sep {x y : Str} (h : Mid x) (h1 : y.cps.toList ≠ []) (h2 : ∀ c ∈ y.cps.toList, spC c = true) : Pre (x ++ y) := by
  unfold Pre
  rw [cps_app, runs_app, fold_sp _ _ h1 h2]
  refine ⟨?_, rfl⟩
  dsimp only
  split
  · exact h.1
  · intro w hw
    rcases List.mem_append.mp hw with hw | hw
    · exact h.1 w hw
    · rw [List.mem_singleton.mp hw]; exact h.2
abbrev seps1 : List Str := [Str.ofString "", Str.ofString "", Str.ofString " ", Str.ofString "\n "]
abbrev seps2 : List Str := [Str.ofString " ", Str.ofString "  ", Str.ofString "\t"]
abbrev seps3 : List Str := [Str.ofString "", Str.ofString "", Str.ofString " "]
theorem seps1_pre : ∀ y ∈ seps1, (runs y.cps.toList) = ([], []) ∧ y.length ≤ 2 ∧ (∀ c ∈ y.cps.toList, c < 128) := by decide
theorem seps2_sp : ∀ y ∈ seps2, y.cps.toList ≠ [] ∧ (∀ c ∈ y.cps.toList, spC c = true) ∧ y.length ≤ 2 ∧ (∀ c ∈ y.cps.toList, c < 128) := by decide
theorem seps3_sp : ∀ y ∈ seps3, (y = Str.ofString "" ∨ y.cps.toList ≠ []) ∧ (∀ c ∈ y.cps.toList, spC c = true) ∧ y.length ≤ 2 ∧ (∀ c ∈ y.cps.toList, c < 128) := by decide
theorem pre_one {y : Str} (h : y ∈ seps1) : Pre y := by
  unfold Pre; rw [(seps1_pre y h).1]; refine ⟨fun _ hw => ?_, rfl⟩; cases hw
theorem Mid.two {x y : Str} (h : Mid x) (hy : y ∈ seps2) : Pre (x ++ y) := h.sep (seps2_sp y hy).1 (seps2_sp y hy).2.1
theorem Mid.three {x y : Str} (h : Mid x) (hy : y ∈ seps3) : Mid (x ++ y) := by
  rcases (seps3_sp y hy).1 with rfl | h1
  · exact h.nil
  · exact (h.sep h1 (seps3_sp y hy).2.1).mid
theorem Mid.keys {x : Str} (h : Mid x) : ∀ w ∈ splitL x, w ∈ keysT := by
  intro w hw
  obtain ⟨u, hu, rfl⟩ := List.mem_map.mp hw
  unfold words0 at hu
  split at hu
  · exact h.1 u hu
  · rcases List.mem_append.mp hu with hu | hu
    · exact h.1 u hu
    · rw [List.mem_singleton.mp hu]; exact h.2
theorem asc_app {a b : Str} (ha : Asc a) (hb : Asc b) : Asc (a ++ b) := by
  intro c hc
  rw [cps_app] at hc
  rcases List.mem_append.mp hc with hc | hc
  · exact ha c hc
  · exact hb c hc
theorem len_app (a b : Str) : (a ++ b).length = a.length + b.length := by
  rw [← len_list, ← len_list a, ← len_list b, cps_app, List.length_append]

theorem hasv_does (e : Wd) (x dx t : Nat) (kind mode : Str) (qk tm u1 u2 u3 u4 : Tok) (vv : Value) (hd : dx < x) :
    Does e 123 390 450 [.ref x] [(x, instObj 126 dx), (dx, ruleD e.w.params u1 u2 u3 u4 kind qk t mode tm vv)]
      (fun r n' => ∃ n'', n' = n'' ++ [(x, instObj 126 dx), (dx, ruleD e.w.params u1 u2 u3 u4 kind qk t mode tm vv)] ∧ n'' = [] ∧ r = .bool (hasV mode)) := by
  k_dflt (refine' enter (binds := [(Str.ofString "self", .ref x)]) ?k6 ?k7 ?k8 ?k9 ?kB ?_ ?c5 ?c2 ?c3 ?c4; (case k6 => k_is); (case k7 => k_is); (case k8 => decide); (case k9 => intro s; exact BindsTo.of_eq rfl); (case kB => exact locs rfl); (case c5 => decide); (case c2 => exact rfl); (case c3 => exact rfl); (case c4 => exact rfl); k_whole; intro base g envs s0 L' h' tk' B' X' T' F' N' l1; (try k_lt l1); (try dsimp only [List.reverse, List.reverseAux] at F'); (try dsimp only); (try k_fold))
  k_steps
  ((try dsimp only); refine' Back.intro [(x, instObj 126 dx), (dx, ruleD e.w.params u1 u2 u3 u4 kind qk t mode tm vv)] ?Fq36 ?Nq36 ?_; (case Fq36 => k_asm); (case Nq36 => (refine' KStt.news_of ?Xq36 ?Yq36; (case Xq36 => k_asm); (case Yq36 => kstt_sub))))
  exact ⟨[], rfl, rfl, rfl⟩
theorem words19_38 : True := by
  k_with "call ref" => (k_here; (with_reducible show wpAny _ _ (call (Value.ref 123) _) _ _ _); k_dflt (refine' use0 (hasv_does _ _ _ _ _ _ _ _ _ _ _ _ _ ?hw1) ?B ?F ?X ?T ?N ?hA ?hh ?hg ?hf ?hke ?hD ?hU ?hn ?_; (case B => k_asm); (case F => k_asm); (case X => k_asm); (case T => k_asm); (case N => k_asm); (case hA => exact rfl); (case hh => exact rfl); (case hg => exact rfl); (case hf => exact rfl); (case hke => exact rfl); (case hD => exact Nat.le_of_ble_eq_true rfl); (case hU => exact Nat.le_of_ble_eq_true rfl); (case hn => k_extra "MINE two"); (case hw1 => assumption); k_whole); intro v9 h9 tk9 n9 F9 N9 ap9 p9; obtain ⟨hn9, e9⟩ := p9; subst hn9; subst e9; clear ap9; (try simp only [List.nil_append] at N9); (try k_sweep))
  k_with "MINE two" => (intro p9 hp9; rcases List.mem_cons.mp hp9 with rfl | hp9; k_mem; rw [List.mem_singleton.mp hp9]; k_mem)
  trivial

theorem countP_strs (k : Str) : ∀ {vs : List Value} {ys : List Str}, StrsAre vs ys → vs.countP (isStrOf k) = (ys.filter (fun z => z == k)).length
  | _, _, .nil => rfl
  | _, _, .cons n u h => by
    rw [List.countP_cons, List.filter_cons, countP_strs k h]
    simp only [isStrOf]
    rcases Bool.eq_false_or_eq_true (n == k) with hb | hb <;> simp [hb]
section
variable {prog : Program} {w : World} {A : Around} {E : Value → Shared → Prop} {s : Shared}
theorem count_tup {l : Addr} {vs : List Value} {ys : List Str} {k : Str} {t : Tok} {Q : Value → Shared → Prop} (hl : s.heap.IsTuple l vs.toArray) (hi : StrsAre vs ys)
    (h : Q (.int ((ys.filter (fun z => z == k)).length : Nat) s.toks) { s with toks := s.toks + 1 }) : wpAny (model prog w) A (call (.builtin "tuple.count") [.ref l, .str k t]) Q E s := by
  obtain ⟨⟨cls, dd, data, sl⟩, ho, hc, n, hd⟩ := id hl
  simp only at hc hd
  subst hc hd
  refine call_meets PySem.F.slot_tuple_count ⟨_, ho, rfl⟩ PySem.F.entry_tuple_count (PySem.F.args_tuple_count_2 _ _) (SeqAt.tuple_countAt l vs.toArray n dd sl (.str k t) (isStrOf k)) ⟨ho, fun y hy => (eq_isStrOf k t hi y (by simpa using hy)).at _ _, ?_⟩
  rw [show vs.toArray.toList = vs from rfl, countP_strs k hi]
  exact h
theorem eq_nil {a b : Addr} {vs : List Value} {Q : Value → Shared → Prop} (hl : s.heap.IsTuple a vs.toArray) (hb : s.heap.IsTuple b #[]) (hu : A.units < cLine) (h : Q (.bool (vs.length == 0)) s) :
    wpAny (model prog w) A (compareOp .Eq (.ref a) (.ref b)) Q E s := by
  refine SeqAt.eq_tupleAt (e := fun _ => true) hl hb hu (fun j _ h2 => absurd h2 (Nat.not_lt_zero j)) ?_
  have e : ((List.range (min vs.toArray.size (#[] : Array Value).size)).all (fun _ => true) && vs.toArray.size == (#[] : Array Value).size) = (vs.length == 0) := by simp
  rw [e]; exact h
end
theorem tup_method {prog : Program} {w : World} {A : Around} {E : Value → Shared → Prop} {s : Shared} {h₀ : Heap} {L D : Addr} {news : Led} {vs : List Value} {pl : Sem Bool} {Q : Value × List Value → Shared → Prop} (N : News h₀ L s.heap news) (hm : (D, tupO vs) ∈ news)
    (h : Q (.builtin "tuple.count", [.ref D]) s) : wpAny (model prog w) A (getMethod (.ref D) (Str.ofString "count") pl) Q E s :=
  getMethod_builtin ⟨_, (N _ hm).1, rfl⟩ PySem.F.plainAttrs_tuple PySem.F.slot_tuple_count PySem.F.type_tuple_count (fun a e => by cases e; exact ⟨_, (N _ hm).1, rfl⟩) h
/-- the end of a statement that may bind the one name x, whose rest is walked once -/
def CutEndV (h₀ : Heap) (L : Addr) (x : Str) (m : Str → Option Value) (news : Led) (P : Prop) (s₁ s₂ : Shared) : Prop := P ∧ ∃ h' tk' o, s₂ = { s₁ with heap := h', toks := tk' } ∧ Fr h₀ L h' (fun y => if y = x then o else m y) ∧ News h₀ L h' news
theorem CutEndV.same {h₀ : Heap} {L : Addr} {x : Str} {m : Str → Option Value} {news all : Led} {P : Prop} {s₁ : Shared} {h' : Heap} {tk : Nat} (hx : m x = none) (F : Fr h₀ L h' m) (N : News h₀ L h' all) (hs : ∀ p ∈ news, p ∈ all) (hP : P) : CutEndV h₀ L x m news P s₁ { s₁ with heap := h', toks := tk } :=
  ⟨hP, h', tk, none, rfl, by rw [← var_off hx]; exact F, KStt.news_of N hs⟩
theorem CutEndV.set {h₀ : Heap} {L : Addr} {x : Str} {m : Str → Option Value} {o : Option Value} {news all : Led} {P : Prop} {s₁ : Shared} {h' : Heap} {tk : Nat} (F : Fr h₀ L h' (fun y => if y = x then o else m y)) (N : News h₀ L h' all) (hs : ∀ p ∈ news, p ∈ all) (hP : P) : CutEndV h₀ L x m news P s₁ { s₁ with heap := h', toks := tk } :=
  ⟨hP, h', tk, o, rfl, F, KStt.news_of N hs⟩
theorem cutV {M : Model} {A : Around} {E : Value → Shared → Prop} {s : Shared} {env : Env} {h₀ : Heap} {L : Addr} {m : Str → Option Value} {st : Stmt} {Q : Flow → Shared → Prop} (P : Prop) (news : Led) (x : Str) (_F : Fr h₀ L s.heap m)
    (h1 : wpAny M A (exec st env) (fun f s' => match f with | .next => CutEndV h₀ L x m news P s s' | f => Q f s') E s)
    (h2 : ∀ h' tk' o, P → Fr h₀ L h' (fun y => if y = x then o else m y) → News h₀ L h' news → Q .next { s with heap := h', toks := tk' }) : wpAny M A (exec st env) Q E s := by
  refine wpAny_mono h1 (fun f s' hf => ?_) fun _ _ e => e
  cases f with
  | next =>
    obtain ⟨p, h', tk', o, rfl, F', N'⟩ := hf
    exact h2 h' tk' o p F' N'
  | ret v => exact hf
  | brk => exact hf
  | cont => exact hf
theorem pick_e {kind y : Str} {b : Bool} (h : (kind == Str.ofString "enumeration") = true) (h2 : wordC (Str.ofString "NMTOKEN") y = b) : pickC kind y = b := by unfold pickC; rw [if_pos h]; exact h2
theorem pick_n {kind y : Str} {b : Bool} (h : (kind == Str.ofString "enumeration") = false) (h2 : wordC (Str.ofString "ID") y = b) : pickC kind y = b := by unfold pickC; rw [if_neg (by rw [h]; decide)]; exact h2
theorem words19_39 : True := by
  k_with "getMethod ref" => (k_here; (with_reducible show wpAny _ _ (getMethod (Value.ref _) (Str.ofString "count") _) _ _ _); k_dflt (refine' tup_method ?N ?m ?_; (case N => k_asm); (case m => k_mem)))
  k_with "MINE tup" => exact News.isTup (by k_asm) (by k_mem)
  k_with "call builtin:tuple.count" => (k_here; k_dflt (refine' count_tup ?k1 ?k2 ?_; (case k1 => k_extra "MINE tup"); (case k2 => assumption); k_whole))
  k_with "compareOp Eq ref ref" => (k_here; k_dflt (refine' eq_nil ?k1 ?k2 ?k3 ?_; (case k1 => k_extra "MINE tup"); (case k2 => k_extra "MINE tup"); (case k3 => exact Nat.le_of_ble_eq_true rfl); k_whole))
  trivial

theorem fault_does (e : Wd) (x dx t : Nat) (kind mode : Str) (qk tm u1 u2 u3 u4 : Tok) (cvs : List Value) (cs : List Str) (ov : Option Str) (vv : Value) (hd : dx < x) (hxt : @Ne Nat x t ∧ @Ne Nat dx t) (hov : IsOpt ov vv) (hm : hasV mode = ov.isSome) (hcs : StrsAre cvs cs) (hca : ∀ x ∈ cs, Asc x) (hl : Light cs) (hc3 : cvs.length ≤ 3000) (hk : kind.length ≤ 20)
    (hv : ∀ v, ov = some v → v.length ≤ 1000 ∧ (told kind v).length ≤ 1000 ∧ Asc (told kind v)) :
    Does e 165 310 100 [.ref x] [(x, instObj 126 dx), (dx, ruleD e.w.params u1 u2 u3 u4 kind qk t mode tm vv), (t, tupO cvs)]
      (fun r n' => ∃ n'', n' = n'' ++ [(x, instObj 126 dx), (dx, ruleD e.w.params u1 u2 u3 u4 kind qk t mode tm vv), (t, tupO cvs)] ∧ n'' = [] ∧ IsOpt (dueC (pickC kind) (wordC kind) kind cs (mode == Str.ofString "fixed") ov) r) := by
  k_dflt (refine' enter (binds := [(Str.ofString "rule", .ref x)]) ?k6 ?k7 ?k8 ?k9 ?kB ?_ ?c5 ?c2 ?c3 ?c4; (case k6 => k_is); (case k7 => k_is); (case k8 => decide); (case k9 => intro s; exact BindsTo.of_eq rfl); (case kB => exact locs rfl); (case c5 => decide); (case c2 => exact rfl); (case c3 => exact rfl); (case c4 => exact rfl); k_whole; intro base g envs s0 L' h' tk' B' X' T' F' N' l1; (try k_lt l1); (try dsimp only [List.reverse, List.reverseAux] at F'); (try dsimp only); (try k_fold))
  obtain ⟨hxt, hdt⟩ := hxt
  have hwl := light_mem hl
  have hHI : HandIf := ⟨trivial⟩
  k_steps
  unfold Stopped
  clear hHI
  refine' cutE (¬ ((kind == Str.ofString "ID") = true ∧ hasV mode = true)) [(x, instObj 126 dx), (dx, ruleD e.w.params u1 u2 u3 u4 kind qk t mode tm vv), (t, tupO cvs)] ?Fa ?_ ?_
  case Fa => k_asm
  · k_steps
    · ((try dsimp only); refine' Back.intro [(x, instObj 126 dx), (dx, ruleD e.w.params u1 u2 u3 u4 kind qk t mode tm vv), (t, tupO cvs)] ?Fq37 ?Nq37 ?_; (case Fq37 => k_asm); (case Nq37 => (refine' KStt.news_of ?Xq37 ?Yq37; (case Xq37 => k_asm); (case Yq37 => kstt_sub))))
      refine ⟨[], rfl, rfl, ?_⟩
      have e1 : ov.isSome = true := hm ▸ (by assumption)
      have e2 : dueC (pickC kind) (wordC kind) kind cs (mode == Str.ofString "fixed") ov = some (Str.ofString "an ID has no default") := by unfold dueC; rw [if_pos ⟨by assumption, e1⟩]
      rw [e2]; exact IsOpt.some _ _
    · dsimp only
      refine CutEnd.intro (by k_asm) (by k_asm) (by kstt_sub) (fun hh => ?_)
      have : hasV mode = false := by assumption
      rw [this] at hh; exact absurd hh.2 (by decide)
    · dsimp only
      refine CutEnd.intro (by k_asm) (by k_asm) (by kstt_sub) (fun hh => ?_)
      have : (kind == Str.ofString "ID") = false := by assumption
      rw [this] at hh; exact absurd hh.1 (by decide)
  intro h2 tk2 hP1 F2 N2
  have e3 : dueC (pickC kind) (wordC kind) kind cs (mode == Str.ofString "fixed") ov = match dueP (pickC kind) kind cs with
    | some m => some m
    | none => match ov with
      | none => none
      | some v => fitC (wordC kind) kind cs (if (mode == Str.ofString "fixed") = true then some v else none) (told kind v) := by
    unfold dueC dueP; rw [if_neg (by rw [← hm]; exact hP1)]; cases ov <;> rfl
  rw [e3]
  clear e3
  dsimp only
  have hHI : HandIf := ⟨trivial⟩
  k_steps
  unfold Stopped
  clear hHI
  refine' cutV (dueP (pickC kind) kind cs = none) [(x, instObj 126 dx), (dx, ruleD e.w.params u1 u2 u3 u4 kind qk t mode tm vv), (t, tupO cvs)] (Str.ofString "word") ?Fb ?_ ?_
  case Fb => k_asm
  · have hHT : HandTurns := ⟨trivial⟩
    k_steps
    · ((try dsimp only); refine' Back.intro [(x, instObj 126 dx), (dx, ruleD e.w.params u1 u2 u3 u4 kind qk t mode tm vv), (t, tupO cvs)] ?Fq38 ?Nq38 ?_; (case Fq38 => k_asm); (case Nq38 => (refine' KStt.news_of ?Xq38 ?Yq38; (case Xq38 => k_asm); (case Yq38 => kstt_sub))))
      refine ⟨[], rfl, rfl, ?_⟩
      have hcl0 : (cvs.length == 0) = true := by assumption
      have hc0 : cs = [] := List.eq_nil_of_length_eq_zero (by rw [← strs_len hcs]; exact eq_of_beq hcl0)
      have e2 : dueP (pickC kind) kind cs = some (Str.ofString "there is nothing to choose") := by unfold dueP; rw [if_pos (by assumption), if_pos hc0]
      rw [e2]; exact IsOpt.some _ _
    · have hcl0 : (cvs.length == 0) = false := by assumption
      have hcne : ¬ cs = [] := fun hh => by
        have h0 : cvs.length = 0 := by rw [strs_len hcs, hh]; rfl
        rw [h0] at hcl0; exact absurd hcl0 (by decide)
      have e4 : dueP (pickC kind) kind cs = dueW (pickC kind) cs := by unfold dueP; rw [if_pos (by assumption), if_neg hcne]
      rw [e4]
      unfold Stopped
      clear hHT
      refine' turns_tup (ax := t) (obj := tupO cvs) (news := [(x, instObj 126 dx), (dx, ruleD e.w.params u1 u2 u3 u4 kind qk t mode tm vv), (t, tupO cvs)]) rfl ?mc rfl rfl hcs ?Fc ?Nc (fun i m₁ nx => (∃ o, m₁ = (fun y => if y = Str.ofString "word" then o else List.lookup y [(Str.ofString "rule", .ref x)])) ∧ nx = [(x, instObj 126 dx), (dx, ruleD e.w.params u1 u2 u3 u4 kind qk t mode tm vv), (t, tupO cvs)] ∧ (cs.take i).find? (badW (pickC kind) cs) = none) ⟨⟨none, var_off rfl⟩, rfl, rfl⟩ ?_ ?_ ?_
      case Fc => k_asm
      case Nc => (refine' KStt.news_of ?Xc ?Yc; (case Xc => k_asm); (case Yc => kstt_sub))
      case mc => k_mem
      · rintro i m₁ nx ⟨_, rfl, _⟩; k_mem
      · rintro gg i y ty m₁ nx h tk I oI hy hyc ⟨⟨o, rfl⟩, rfl, hfi⟩ hoff F4 N4
        have hyl := hwl y hyc
        have hya := hca y hyc
        have ho2 : @Ne Nat x I := hoff _ List.mem_cons_self
        have ho3 : @Ne Nat dx I := hoff _ (List.mem_cons_of_mem _ List.mem_cons_self)
        have ho4 : @Ne Nat t I := hoff _ (List.mem_cons_of_mem _ (List.mem_cons_of_mem _ List.mem_cons_self))
        k_steps
        · dsimp only
          refine TurnEnd.ret ?_
          ((try dsimp only); refine' Back.intro [(x, instObj 126 dx), (dx, ruleD e.w.params u1 u2 u3 u4 kind qk t mode tm vv), (t, tupO cvs)] ?Fq39 ?Nq39 ?_; (case Fq39 => k_asm); (case Nq39 => (refine' KStt.news_of ?Xq39 ?Yq39; (case Xq39 => k_asm); (case Yq39 => kstt_sub))))
          refine ⟨[], rfl, rfl, ?_⟩
          rw [due_twice hfi hy (by omega)]; exact IsOpt.some _ _
        · exact TurnEnd.next [(x, instObj 126 dx), (dx, ruleD e.w.params u1 u2 u3 u4 kind qk t mode tm vv), (t, tupO cvs)] (by k_asm) (by k_asm) (by kstt_sub) hoff ⟨⟨some (.str y ty), var_twice⟩, rfl, find_on hfi hy (badW_no (by omega) (pick_e (by assumption) (by assumption)))⟩
        · dsimp only
          refine TurnEnd.ret ?_
          ((try dsimp only); refine' Back.intro [(x, instObj 126 dx), (dx, ruleD e.w.params u1 u2 u3 u4 kind qk t mode tm vv), (t, tupO cvs)] ?Fq40 ?Nq40 ?_; (case Fq40 => k_asm); (case Nq40 => (refine' KStt.news_of ?Xq40 ?Yq40; (case Xq40 => k_asm); (case Yq40 => kstt_sub))))
          refine ⟨[], rfl, rfl, ?_⟩
          rw [due_noword hfi hy (by omega) (pick_e (by assumption) (by assumption))]; exact IsOpt.some _ _
        · exact TurnEnd.next [(x, instObj 126 dx), (dx, ruleD e.w.params u1 u2 u3 u4 kind qk t mode tm vv), (t, tupO cvs)] (by k_asm) (by k_asm) (by kstt_sub) hoff ⟨⟨some (.str y ty), var_twice⟩, rfl, find_on hfi hy (badW_no (by omega) (pick_n (by assumption) (by assumption)))⟩
        · dsimp only
          refine TurnEnd.ret ?_
          ((try dsimp only); refine' Back.intro [(x, instObj 126 dx), (dx, ruleD e.w.params u1 u2 u3 u4 kind qk t mode tm vv), (t, tupO cvs)] ?Fq41 ?Nq41 ?_; (case Fq41 => k_asm); (case Nq41 => (refine' KStt.news_of ?Xq41 ?Yq41; (case Xq41 => k_asm); (case Yq41 => kstt_sub))))
          refine ⟨[], rfl, rfl, ?_⟩
          rw [due_noword hfi hy (by omega) (pick_n (by assumption) (by assumption))]; exact IsOpt.some _ _
      · rintro gg h tk m' nx ⟨⟨o, rfl⟩, rfl, hfi⟩ F4 N4
        k_steps
        dsimp only
        exact CutEndV.set F4 N4 (by kstt_sub) (due_none hfi)
    · dsimp only
      refine CutEndV.same rfl (by k_asm) (by k_asm) (by kstt_sub) ?_
      have hc : choiceK kind = false := by assumption
      unfold dueP; rw [hc]; rfl
  intro h3 tk3 o3 hP2 F3 N3
  rw [hP2]
  dsimp only
  clear F2 N2
  cases hov with
  | none =>
    have hm' : hasV mode = false := hm
    k_steps
    ((try dsimp only); refine' Back.intro [(x, instObj 126 dx), (dx, ruleD e.w.params u1 u2 u3 u4 kind qk t mode tm Value.none), (t, tupO cvs)] ?Fq42 ?Nq42 ?_; (case Fq42 => k_asm); (case Nq42 => (refine' KStt.news_of ?Xq42 ?Yq42; (case Xq42 => k_asm); (case Yq42 => kstt_sub))))
    exact ⟨[], rfl, rfl, IsOpt.none⟩
  | some v tv =>
    have hm' : hasV mode = true := hm
    obtain ⟨hv1, hv2, hv3⟩ := hv v rfl
    k_steps
    ((try dsimp only); refine' Back.intro [(x, instObj 126 dx), (dx, ruleD e.w.params u1 u2 u3 u4 kind qk t mode tm (.str v tv)), (t, tupO cvs)] ?Fq43 ?Nq43 ?_; (case Fq43 => k_asm); (case Nq43 => (refine' KStt.news_of ?Xq43 ?Yq43; (case Xq43 => k_asm); (case Yq43 => kstt_sub))))
    exact ⟨[], rfl, rfl, by assumption⟩
theorem words19_40 : True := by
  k_with "call ref" => (k_here; (with_reducible show wpAny _ _ (call (Value.ref 165) _) _ _ _); k_dflt (refine' use0 (fault_does _ _ _ _ _ _ _ _ _ _ _ _ _ _ _ _ ?hw1 ?hw2 ?hw3 ?hw4 ?hw5 ?hw6 ?hw7 ?hw8 ?hw9 ?hw10) ?B ?F ?X ?T ?N ?hA ?hh ?hg ?hf ?hke ?hD ?hU ?hn ?_; (case B => k_asm); (case F => k_asm); (case X => k_asm); (case T => k_asm); (case N => k_asm); (case hA => exact rfl); (case hh => exact rfl); (case hg => exact rfl); (case hf => exact rfl); (case hke => exact rfl); (case hD => exact Nat.le_of_ble_eq_true rfl); (case hU => exact Nat.le_of_ble_eq_true rfl); (case hn => k_extra "MINE three"); (case hw1 => assumption); (case hw2 => k_extra "MINE apart"); (case hw3 => k_extra "MINE opt"); (case hw4 => assumption); (case hw5 => assumption); (case hw6 => assumption); (case hw7 => assumption); (case hw8 => assumption); (case hw9 => assumption); (case hw10 => assumption); k_whole); intro v9 h9 tk9 n9 F9 N9 ap9 p9; obtain ⟨hn9, p9⟩ := p9; subst hn9; clear ap9; (try simp only [List.nil_append] at N9); (try k_sweep))
  trivial


/-- a mark: a range is taken by hand -/
structure HandRange : Prop where
  mark :: (one : True)
theorem mem_strs {vs : List Value} {ss : List Str} (hs : StrsAre vs ss) {v : Value} (h : v ∈ vs) : ∃ y t, v = .str y t ∧ y ∈ ss := by
  induction hs with
  | nil => cases h
  | cons y t _ ih =>
    rcases List.mem_cons.mp h with rfl | h
    · exact ⟨y, t, rfl, List.mem_cons_self⟩
    · obtain ⟨z, u, e, hz⟩ := ih h
      exact ⟨z, u, e, List.mem_cons_of_mem _ hz⟩
theorem mem_ints {vs : List Value} {ns : List Int} (hs : IntsAre vs ns) {v : Value} (h : v ∈ vs) : ∃ i t, v = .int i t ∧ i ∈ ns := by
  induction hs with
  | nil => cases h
  | cons y t _ ih =>
    rcases List.mem_cons.mp h with rfl | h
    · exact ⟨y, t, rfl, List.mem_cons_self⟩
    · obtain ⟨z, u, e, hz⟩ := ih h
      exact ⟨z, u, e, List.mem_cons_of_mem _ hz⟩
theorem key_len {ss : List Str} {y : Str} (h : ∀ w ∈ ss, w ∈ keysT) (hy : y ∈ ss) : y ∈ keysT ∧ y.length ≤ 5 := ⟨h y hy, (key_facts y (h y hy)).2.1⟩
theorem words20_41 : True := by
  k_with "call type:range" => ((rename HandRange => hHR); refine unstop ?_)
  k_with "MINE lens" => first | assumption | exact ⟨Nat.le_of_ble_eq_true rfl, Nat.le_of_ble_eq_true rfl⟩ | (constructor <;> (first | assumption | omega | decide))
  k_with "MINE strs" => first | assumption | (repeat constructor)
  k_with "MINE drawn" => skip
  k_with "call ref" => (k_here; (with_reducible show wpAny _ _ (call (Value.ref 186) _) _ _ _); k_dflt (refine' use1 (one_does _ _ _ _ _ _ ?hw1 ?hw2 ?hw3) ?U ?B ?F ?X ?T ?N ?hA ?hh ?hg ?hf ?hke ?hD ?hU ?hn ?_; (case B => k_asm); (case F => k_asm); (case X => k_asm); (case T => k_asm); (case N => k_asm); (case hA => exact rfl); (case hh => exact rfl); (case hg => exact rfl); (case hf => exact rfl); (case hke => exact rfl); (case hD => exact Nat.le_of_ble_eq_true rfl); (case hU => exact Nat.le_of_ble_eq_true rfl); (case U => k_updF); (case hn => k_extra "MINE one"); (case hw2 => k_asm); (case hw1 => (first | assumption | omega)); (case hw3 => k_extra "MINE lens"); k_whole); intro v9 h9 tk9 o9 F9 N9 p9; obtain ⟨hs9, hm9⟩ := p9; (first | (obtain ⟨y9, t9, e9, hy9⟩ := mem_strs (by k_extra "MINE strs") hm9; subst e9; clear hm9; (first | have hyl9 := (seps1_pre _ hy9).2.1 | have hyl9 := (seps2_sp _ hy9).2.2.1 | have hyl9 := (seps3_sp _ hy9).2.2.1 | (obtain ⟨hyk9, hyl9⟩ := key_len (by assumption) hy9) | skip)) | (obtain ⟨y9, t9, e9, hy9⟩ := mem_ints (by first | assumption | (repeat constructor)) hm9; subst e9; clear hm9)); (try dsimp only at N9); (try k_sweep))
  trivial

theorem asc1 {y : Str} (h : y ∈ seps1) : Asc y := (seps1_pre y h).2.2
theorem asc2 {y : Str} (h : y ∈ seps2) : Asc y := (seps2_sp y h).2.2.2
theorem asc3 {y : Str} (h : y ∈ seps3) : Asc y := (seps3_sp y h).2.2.2
theorem asc0 : Asc (Str.ofString "") := asc3 (by decide)
theorem len0 : (Str.ofString "").length = 0 := by decide
theorem words20_42 : True := by
  k_with "MINE mid" => first | (refine Mid.three ?_ (by assumption); k_extra "MINE mid") | (refine Pre.word ?_ (by assumption); k_extra "MINE pre") | (refine Pre.mid ?_; k_extra "MINE pre")
  k_with "MINE pre" => first | exact pre_one (by assumption) | (refine Mid.two ?_ (by assumption); k_extra "MINE mid") | (refine Pre.nil ?_; k_extra "MINE pre")
  k_with "MINE ascv" => first | (refine asc_app ?_ ?_ <;> k_extra "MINE ascv") | exact asc1 (by assumption) | exact asc2 (by assumption) | exact asc3 (by assumption) | exact asc_key (by assumption) | exact asc0
  trivial

theorem value_does (e : Wd) (src th : Nat) (o : Obj) (vs : List Value) (ss : List Str) (ep : Nat) (hne : src ≠ th) (hs : Src o) (hl : 0 < vs.length ∧ vs.length ≤ 1000) (hvs : StrsAre vs ss) (hss : ∀ w ∈ ss, w ∈ keysT) :
    Does e 201 370 350 [.ref src, .ref th] [(src, o), (th, W.listOf vs.toArray ep)]
      (fun v n' => ∃ o', n' = (src, o') :: [(th, W.listOf vs.toArray ep)] ∧ Src o' ∧ ∃ x t, v = .str x t ∧ ValOk x) := by
  k_dflt (refine' enter (binds := [(Str.ofString "source", .ref src), (Str.ofString "some", .ref th)]) ?k6 ?k7 ?k8 ?k9 ?kB ?_ ?c5 ?c2 ?c3 ?c4; (case k6 => k_is); (case k7 => k_is); (case k8 => decide); (case k9 => intro s; exact BindsTo.of_eq rfl); (case kB => exact locs rfl); (case c5 => decide); (case c2 => exact rfl); (case c3 => exact rfl); (case c4 => exact rfl); k_whole; intro base g envs s0 L' h' tk' B' X' T' F' N' l1; (try k_lt l1); (try dsimp only [List.reverse, List.reverseAux] at F'); (try dsimp only); (try k_fold))
  have hHR : HandRange := ⟨trivial⟩
  k_steps
  unfold Stopped
  clear hHR
  have N10 : News g L' h9 [(src, o9), (th, W.listOf vs.toArray ep)] := KStt.news_of N9 (by kstt_sub)
  clear N9
  have hc : y9 = 0 ∨ y9 = 1 ∨ y9 = 2 ∨ y9 = 3 := by
    simp only [List.mem_cons, List.not_mem_nil, or_false] at hy9; omega
  clear hy9
  rcases hc with rfl | rfl | rfl | rfl
  all_goals
    k_steps
    ((try dsimp only); refine' Back.intro [(src, o9), (th, W.listOf vs.toArray ep)] ?Fq44 ?Nq44 ?_; (case Fq44 => k_asm); (case Nq44 => (refine' KStt.news_of ?Xq44 ?Yq44; (case Xq44 => k_asm); (case Yq44 => kstt_sub))))
    refine ⟨o9, rfl, hs9, _, _, rfl, ?_, ?_, ?_⟩
    · simp only [len_app, len0]; omega
    · k_extra "MINE ascv"
    · refine Mid.keys ?_
      k_extra "MINE mid"
theorem words20_43 : True := by
  k_with "call ref" => (k_here; (with_reducible show wpAny _ _ (call (Value.ref 201) _) _ _ _); k_dflt (refine' use1 (value_does _ _ _ _ _ _ _ ?hw1 ?hw2 ?hw3 ?hw4 ?hw5) ?U ?B ?F ?X ?T ?N ?hA ?hh ?hg ?hf ?hke ?hD ?hU ?hn ?_; (case B => k_asm); (case F => k_asm); (case X => k_asm); (case T => k_asm); (case N => k_asm); (case hA => exact rfl); (case hh => exact rfl); (case hg => exact rfl); (case hf => exact rfl); (case hke => exact rfl); (case hD => exact Nat.le_of_ble_eq_true rfl); (case hU => exact Nat.le_of_ble_eq_true rfl); (case U => k_updF); (case hn => k_extra "MINE one"); (case hw2 => k_asm); (case hw1 => (first | assumption | omega)); (case hw4 => k_extra "MINE strs"); (case hw3 => k_extra "MINE lens"); (case hw5 => assumption); k_whole); intro v9 h9 tk9 o9 F9 N9 p9; obtain ⟨hs9, y9, t9, e9, hy9⟩ := p9; subst e9; (try dsimp only at N9); (try k_sweep))
  trivial


/-- a contract whose heap answers G -/
def DoesG (G : Heap → Prop) (e : Wd) (f : Addr) (D U : Nat) (vs : List Value) (n : Led) (P : Value → Led → Prop) : Prop :=
  ∀ (base g : Heap) (envs : List Env) (s : Shared) (R : Result → Shared → Prop), G g →
    Below (ctxA D U envs) base envs g → (hd.heap_39 e.w.params).In g → Top hd.view_39 (looseW hd.view_39 [Str.ofString "_law_kinds"]) e.mean e.mg e.mb g →
    g.StaysIn s.heap → g.objs.size ≤ s.heap.objs.size → (∀ p ∈ n, s.heap.get? p.1 = some p.2 ∧ g.get? p.1 = none) →
    (∀ v h' tk' n', g.StaysIn h' → (∀ p ∈ n', h'.get? p.1 = some p.2 ∧ g.get? p.1 = none) → P v n' → R (.ok (.ret v)) { s with heap := h', toks := tk' }) →
    codeAny (model PySem.Challenge.rw_on0182_01.row.prog e.w) (ctxA D U envs) (.call (.ref f) ⟨vs, []⟩) R s
section
variable {e : Wd} {f : Addr} {D U : Nat} {vs : List Value} {n : Led} {P : Value → Led → Prop} {name qual : Str} {params : Arguments} {body : List Stmt} {scope : Scope} {dV kV doc pm cdv ct oc : Value} {an od : Option Addr} {osl : Array (Option Value)} {binds : List (Str × Value)}

theorem enterG {G : Heap → Prop}
    (ho : (hd.heap_39 e.w.params).lookup f = some ⟨oc, od, .func (fnOf name qual params body scope dV kV doc pm an cdv ct), osl⟩) (hcd : codeIn (hd.heap_39 e.w.params) cdv qual = true) (hroom : D < recursionLimit)
    (hbind : ∀ s, BindsTo s (fnOf name qual params body scope dV kV doc pm an cdv ct) ⟨vs, []⟩ binds) (hloc : ∀ y ∈ binds, scope.names.lookup y.1 = some .local)
    (h : ∀ base g envs (s : Shared) L h₁ tk₁, G g → Below (ctxA D U envs) base envs g → (hd.heap_39 e.w.params).In g → Top hd.view_39 (looseW hd.view_39 [Str.ofString "_law_kinds"]) e.mean e.mg e.mb g →
      Fr g L h₁ (fun y => binds.reverse.lookup y) → News g L h₁ n → (∀ p ∈ n, p.1 < L) →
      wpAny (model PySem.Challenge.rw_on0182_01.row.prog e.w) ((ctxA D U envs).deeper (envOf qual scope L f cdv)) (execs body (envOf qual scope L f cdv))
        (fun fl s' => Back g L P s (match fl with | .ret v => v | _ => .none) s') (fun _ _ => False) { s with heap := h₁, toks := tk₁ })
    (hcell : ∀ x ∈ scope.names, x.2 ≠ .cell) (hco : scope.isCoroutine = false) (hgen : scope.isGenerator = false) (hk : scope.kind = .function) : DoesG G e f D U vs n P := by
  intro base g envs s R hG B X T st hsz hn k
  have X' : (hd.heap_39 e.w.params).In s.heap := X.keeps st
  refine codeAny_call_def (fd := fnOf name qual params body scope dV kV doc pm an cdv ct) (body := body) (binds := binds) hroom (X' _ _ ho) rfl (T.nolimit.keeps st) (codeRec_of X' hcd) rfl (hbind s) hcell hloc (fun h₁ hns hk₁ => ?_) hco hgen hk
  refine wpAny_mono (h base g envs s s.heap.objs.size h₁ _ hG B X T ⟨hns, fun b o q => hk₁ b o (st b o q), hsz⟩ (fun p hp => ⟨hk₁ _ _ (hn p hp).1, Nat.ne_of_lt (Heap.lt_size (hn p hp).1), (hn p hp).2⟩) (fun p hp => Heap.lt_size (hn p hp).1)) ?_ (fun _ _ q => q.elim)
  rintro fl s' ⟨h', tk', m, n', rfl, F, N, p⟩
  exact k _ h' tk' n' F.keep (fun q hq => ⟨(N q hq).1, (N q hq).2.2⟩) p

end
section
variable {e : Wd} {f : Addr} {D U : Nat} {vs : List Value} {n : Led} {P : Value → Led → Prop}
  {A A₀ : Around} {base h₀ : Heap} {outer : List Env} {L : Addr} {m : Str → Option Value} {env : Env} {s : Shared} {Q E : Value → Shared → Prop} {news : Led}

theorem useG {G : Heap → Prop} (hG : G h₀) (hm : ∀ g g' : Heap, g.StaysIn g' → G g → G g') (dz : DoesG G e f D U vs n P) (rest : Led) (B : Below A₀ base outer h₀) (F : Fr h₀ L s.heap m) (X : (hd.heap_39 e.w.params).In h₀)
    (T : Top hd.view_39 (looseW hd.view_39 [Str.ofString "_law_kinds"]) e.mean e.mg e.mb h₀) (N : News h₀ L s.heap news)
    (hA : A.frames = some (env :: outer)) (hh : A.handled = none) (hg : A.guards = some []) (hf : env.frame = some L) (hke : env.scope.kind = .function)
    (hD : A.depth ≤ D) (hU : A.units ≤ U)
    (hn : ∀ p ∈ n, p ∈ news) (hr : ∀ p ∈ rest, p ∈ news) (hap : ∀ p ∈ rest, ∀ q ∈ n, p.1 ≠ q.1)
    (k : ∀ v h' tk' n', Fr h₀ L h' m → News h₀ L h' (n' ++ rest) → (∀ p ∈ n', ∀ q ∈ rest, q.1 ≠ p.1) → P v n' → Q v { s with heap := h', toks := tk' }) :
    wpAny (model PySem.Challenge.rw_on0182_01.row.prog e.w) A (call (.ref f) vs) Q E s := by
  refine wpAny_call ?_
  have Nn : News h₀ L s.heap n := fun p hp => N p (hn p hp)
  have B₁ := pushX B F hf hke
  have nL : L ∉ n.map (·.1) := fun q => by
    obtain ⟨p, hp, e⟩ := List.mem_map.mp q
    exact (Nn p hp).2.1 e
  have nm : ∀ b o, h₀.get? b = some o → b ∉ n.map (·.1) := fun b o e q => by
    obtain ⟨p, hp, rfl⟩ := List.mem_map.mp q
    rw [(Nn p hp).2.2] at e; cases e
  have st : h₀.StaysIn (hideAll s.heap (n.map (·.1))) := fun b o e => hideAll_get _ (F.keep b o e) (nm b o e)
  obtain ⟨oL, es, ep, hL, hLd, hLk, hLf⟩ := F.ns
  have hLg := hideAll_get (n.map (·.1)) hL nL
  have B₂ : Below (ctxA D U (env :: outer)) base (env :: outer) (hideAll s.heap (n.map (·.1))) := by
    refine ⟨rfl, fun b o e => st b o (B.stays b o e), funFrames_hideAll B₁.frames fun env' he b hb hf' => ?_⟩
    cases he with
    | head => exact nL ((Option.some.inj (hf.symm.trans hf') : L = b) ▸ hb)
    | tail _ he =>
      obtain ⟨L₁, o₁, hf₁, ho₁⟩ := funFrames_in B.frames env' he
      rw [hf₁] at hf'
      exact nm L₁ o₁ ho₁ ((Option.some.inj hf' : L₁ = b) ▸ hb)
  have key := dz base (hideAll s.heap (n.map (·.1))) (env :: outer) s (fun r s' => match r with | .ok (.ret v) => Q v s' | .ok _ => False | .error e => E e s') (hm _ _ st hG) B₂ (X.keeps st) (T.keeps st)
    (fun b o q => of_hideAll _ q) (Nat.le_of_eq (hideAll_size _ _)) (fun p hp => ⟨(Nn p hp).1, hideAll_none _ (List.mem_map_of_mem hp)⟩) ?_
  · intro Γ p hc hΓ
    exact key Γ p hc (in_le hΓ hh.symm hA.symm hg.symm hD hU)
  · intro v h' tk' n' st' hn' p
    have hrest : ∀ q ∈ rest, (hideAll s.heap (n.map (·.1))).get? q.1 = some q.2 := fun q hq => hideAll_get _ (N q (hr q hq)).1 fun hm => by
      obtain ⟨x, hx, e⟩ := List.mem_map.mp hm
      exact hap q hq x hx e.symm
    refine k v h' tk' n' ⟨⟨oL, es, ep, st' L oL hLg, hLd, hLk, hLf⟩, fun b o e => st' b o (st b o e), F.above⟩ (fun q hq => ?_) (fun x hx q hq e => ?_) p
    · rcases List.mem_append.mp hq with hq | hq
      · refine ⟨(hn' q hq).1, fun e => ?_, ?_⟩
        · have := (hn' q hq).2; rw [e, hLg] at this; cases this
        · cases z : h₀.get? q.1 with
          | none => rfl
          | some o => have := (hn' q hq).2; rw [st _ _ z] at this; cases this
      · exact ⟨st' _ _ (hrest q hq), (N q (hr q hq)).2⟩
    · have := (hn' x hx).2
      rw [← e, hrest q hq] at this; cases this
end
section
variable {e : Wd} {f : Addr} {D U : Nat} {vs : List Value} {P : Value → Led → Prop}
  {A A₀ : Around} {base h₀ : Heap} {outer : List Env} {L : Addr} {m : Str → Option Value} {env : Env} {s : Shared} {Q E : Value → Shared → Prop} {news : Led}
theorem useG0 {G : Heap → Prop} (hG : G h₀) (hm : ∀ g g' : Heap, g.StaysIn g' → G g → G g') (dz : DoesG G e f D U vs [] P) (B : Below A₀ base outer h₀) (F : Fr h₀ L s.heap m) (X : (hd.heap_39 e.w.params).In h₀)
    (T : Top hd.view_39 (looseW hd.view_39 [Str.ofString "_law_kinds"]) e.mean e.mg e.mb h₀) (N : News h₀ L s.heap news)
    (hA : A.frames = some (env :: outer)) (hh : A.handled = none) (hg : A.guards = some []) (hf : env.frame = some L) (hke : env.scope.kind = .function)
    (hD : A.depth ≤ D) (hU : A.units ≤ U)
    (k : ∀ v h' tk' n', Fr h₀ L h' m → News h₀ L h' (n' ++ news) → P v n' → Q v { s with heap := h', toks := tk' }) :
    wpAny (model PySem.Challenge.rw_on0182_01.row.prog e.w) A (call (.ref f) vs) Q E s :=
  useG hG hm dz news B F X T N hA hh hg hf hke hD hU (fun _ hp => nomatch hp) (fun _ hp => hp) (fun _ _ _ hq => nomatch hq) fun v h' tk' n' F' N' _ p => k v h' tk' n' F' N' p
end
theorem keep_list {a : Addr} {vs : Array Value} : ∀ g g' : Heap, g.StaysIn g' → g.IsList a vs → g'.IsList a vs := fun _ _ st ⟨o, ho, r⟩ => ⟨o, st _ _ ho, r⟩
theorem pool_does (e : Wd) (sc : Addr) (vs : List Value) (ns : List Int) (k : Int) (kt : Tok) (hI : IntsAre vs ns) (hn : ns.length ≤ 63) (hk : k = 0 ∨ k = 1) :
    DoesG (fun g => g.IsList sc vs.toArray) e 172 380 400 [.ref sc, .int k kt] [] (fun v n' => ∃ a o, v = .ref a ∧ n' = [(a, o)] ∧ Src o) := by
  k_dflt (refine' enterG (binds := [(Str.ofString "script", .ref sc), (Str.ofString "k", .int k kt)]) ?k6 ?k7 ?k8 ?k9 ?kB ?_ ?c5 ?c2 ?c3 ?c4; (case k6 => k_is); (case k7 => k_is); (case k8 => decide); (case k9 => intro s; exact BindsTo.of_eq rfl); (case kB => exact locs rfl); (case c5 => decide); (case c2 => exact rfl); (case c3 => exact rfl); (case c4 => exact rfl); k_whole; intro base g envs s0 L' h' tk' G' B' X' T' F' N' l1; (try k_lt l1); (try dsimp only [List.reverse, List.reverseAux] at F'); (try dsimp only); (try k_fold))
  have hlv : vs.length = ns.length := hI.length
  have hll : h'.IsList sc vs.toArray := keep_list _ _ F'.keep G'
  rcases hk with rfl | rfl
  all_goals
    k_steps
    all_goals
      (first | (dsimp only; refine' Back.intro _ ?Fq45 ?Nq45 ?_; (case Fq45 => k_asm); (case Nq45 => k_asm)) | (refine' Back.intro _ ?Fq45 ?Nq45 ?_; (case Fq45 => k_asm); (case Nq45 => k_asm)))
      refine ⟨_, _, rfl, rfl, _, _, _, _, _, rfl, Int.mul_nonneg ?_ ?_, (fm7 _).1, (fm7 _).2⟩
      · split <;> omega
      · (repeat' split) <;> omega
theorem words21_44 : True := by
  k_with "call ref" => (k_here; (with_reducible show wpAny _ _ (call (Value.ref 172) _) _ _ _); k_dflt (refine' useG0 (G := fun g => g.IsList _ _) ?hG keep_list (pool_does _ _ _ _ _ _ ?hw1 ?hw2 ?hw3) ?B ?F ?X ?T ?N ?hA ?hh ?hg ?hf ?hke ?hD ?hU ?_; (case hG => assumption); (case B => k_asm); (case F => k_asm); (case X => k_asm); (case T => k_asm); (case N => k_asm); (case hA => exact rfl); (case hh => exact rfl); (case hg => exact rfl); (case hf => exact rfl); (case hke => exact rfl); (case hD => exact Nat.le_of_ble_eq_true rfl); (case hU => exact Nat.le_of_ble_eq_true rfl); (case hw1 => assumption); (case hw2 => (first | assumption | omega)); (case hw3 => (first | exact .inl rfl | exact .inr rfl)); k_whole); intro v9 h9 tk9 n9 F9 N9 p9; obtain ⟨a9, o9, e9, hn9, hs9⟩ := p9; subst hn9; subst e9; (try simp only [List.cons_append, List.nil_append] at N9); (try k_sweep))
  trivial


/-- a mark: the next binding of the name x is taken by hand -/
structure HandAt (x : Str) : Prop where
  mark :: (one : True)
theorem unstopAt {M : Model} {A : Around} {E : Value → Shared → Prop} {s : Shared} {env : Env} {x : Str} {p q : Pos} {v : PySem.Expr} {Q : Flow → Shared → Prop} (_h : HandAt x) (h : Stopped (wpAny M A (exec (.Assign [.Name x p] v q) env) Q E s)) : wpAny M A (exec (.Assign [.Name x p] v q) env) Q E s := h
theorem add_ls {prog : Program} {w : World} {A : Around} {E : Value → Shared → Prop} {s : Shared} {h₀ : Heap} {L l b : Addr} {m : Str → Option Value} {news : Led} {vs ws : List Value} {Q : Value → Shared → Prop} (F : Fr h₀ L s.heap m) (N : News h₀ L s.heap news)
    (hl : s.heap.IsList l vs.toArray) (hb : s.heap.IsList b ws.toArray) (hsz : vs.length + ws.length ≤ 100000)
    (h : ∀ a h', Fr h₀ L h' m → News h₀ L h' ((a, W.listOf (vs ++ ws).toArray 0) :: news) → (∀ p ∈ news, p.1 < a) → Q (.ref a) { s with heap := h' }) : wpAny (model prog w) A (binaryOp .Add (.ref l) (.ref b)) Q E s :=
  add_lists (hsz := by rw [PySem.sizeLine_eq]; omega) F N hl hb fun h' F' N' => h _ h' F' N' fun p hp => Heap.lt_size (N p hp).1
theorem listK0 {K : Frag} {g h : Heap} {L b : Addr} {m : Str → Option Value} {items : List Value} {n : Nat} {od : Option Addr} {osl : Array (Option Value)}
    (X : K.In g) (F : Fr g L h m) (e : K.lookup b = some ⟨.type "list", od, .seq items.toArray n, osl⟩) : h.IsList b items.toArray := ⟨_, X.keeps F.keep b _ e, rfl, _, rfl⟩
theorem strs_take : ∀ {vs : List Value} {ss : List Str}, StrsAre vs ss → ∀ k : Nat, StrsAre (vs.take k) (ss.take k)
  | _, _, _, 0 => .nil
  | _, _, .nil, _ + 1 => .nil
  | _, _, .cons n t h, k + 1 => .cons n t (strs_take h k)
theorem slice_take {prog : Program} {w : World} {A : Around} {E : Value → Shared → Prop} {s : Shared} {h₀ : Heap} {L l : Addr} {m : Str → Option Value} {news : Led} {vs : List Value} {ss : List Str} {k : Int} {u : Tok} {value slice : PySem.Expr} {Q : Value → Shared → Prop} (F : Fr h₀ L s.heap m) (N : News h₀ L s.heap news)
    (hl : s.heap.IsList l vs.toArray) (hi : StrsAre vs ss) (h0 : 0 ≤ k) (h2 : k ≤ ss.length) (hz : vs.length ≤ 3000)
    (h : ∀ a h' ws, Fr h₀ L h' m → News h₀ L h' ((a, W.listOf ws.toArray 0) :: news) → StrsAre ws (ss.take k.toNat) → (∀ p ∈ news, p.1 < a) → Q (.ref a) { s with heap := h' })
    (hs : subscripted slice false (.ref l) (.ref s.heap.objs.size) = operate [.ref s.heap.objs.size, .ref l] (getItem (.ref l) (.ref s.heap.objs.size)))
    (ht : ∀ r, letTemporaryGo value (.ref l) r = pure ()) :
    wpAny (model prog w) A (subscriptTail value slice (.ref l) (.ref s.heap.objs.size)) Q E { s with heap := s.heap.push { cls := .type "slice", data := .fields #[.none, .int k u, .none] } } := by
  refine slice_list F N hl .none (.int k u) (fun h' F' N' => ?_) hs ht (by rw [PySem.sizeLine_eq, List.size_toArray]; omega)
  have e : slicePick vs.toArray none (some k) none = (vs.take k.toNat).toArray := by
    have ey : k = (k.toNat : Int) := by omega
    rw [ey, slicePick_upto vs.toArray k.toNat (by rw [List.size_toArray, strs_len hi]; omega)]
    simp; omega
  rw [e] at N'
  exact h _ h' (vs.take k.toNat) F' N' (strs_take hi _) fun p hp => Nat.lt_succ_of_lt (Heap.lt_size (N p hp).1)
theorem ints3 {i : Int} (h : i ∈ ([3, 3, 6, 8] : List Int)) : 3 ≤ i ∧ i ≤ 8 := by
  simp only [List.mem_cons, List.not_mem_nil, or_false] at h; omega
theorem words22_45 : True := by
  k_with "MINE fit3" => first | assumption | omega | exact Nat.le_of_ble_eq_true rfl | (have hx9 := ints3 (by assumption); (try simp only [List.length_cons, List.length_nil]); omega) | (simp only [List.length_append, List.length_cons, List.length_nil] at *; omega)
  k_with "subscriptTail Name Slice ref ref" => (k_here; (with_reducible show wpAny _ _ (subscriptTail _ (PySem.Expr.Slice _ _ none _) (Value.ref _) (Value.ref _)) _ _ _); k_dflt (refine' slice_take ?F ?N ?k1 ?k2 ?k3 ?k4 ?k5 ?_ ?hw8 ?hw9; (case F => k_asm); (case N => k_asm); (case k1 => k_extra "MINE lst"); (case k2 => k_extra "MINE strs"); (case k3 => k_extra "MINE fit3"); (case k4 => k_extra "MINE fit3"); (case k5 => k_extra "MINE fit3"); (case hw8 => with_unfolding_all rfl); (case hw9 => kmk_pure); k_whole); intro a9 h9 ws9 F9 N9 hv9 l9; (try k_lt l9); (try k_sweep))
  k_with "subscriptTail List Slice ref ref" => (k_here; (with_reducible show wpAny _ _ (subscriptTail _ (PySem.Expr.Slice _ _ none _) (Value.ref _) (Value.ref _)) _ _ _); k_dflt (refine' slice_take ?F ?N ?k1 ?k2 ?k3 ?k4 ?k5 ?_ ?hw8 ?hw9; (case F => k_asm); (case N => k_asm); (case k1 => k_extra "MINE lst"); (case k2 => k_extra "MINE strs"); (case k3 => k_extra "MINE fit3"); (case k4 => k_extra "MINE fit3"); (case k5 => k_extra "MINE fit3"); (case hw8 => with_unfolding_all rfl); (case hw9 => kmk_pure); k_whole); intro a9 h9 ws9 F9 N9 hv9 l9; (try k_lt l9); (try k_sweep))
  k_with "subscriptTail BinOp Slice ref ref" => (k_here; (with_reducible show wpAny _ _ (subscriptTail _ (PySem.Expr.Slice _ _ none _) (Value.ref _) (Value.ref _)) _ _ _); k_dflt (refine' slice_take ?F ?N ?k1 ?k2 ?k3 ?k4 ?k5 ?_ ?hw8 ?hw9; (case F => k_asm); (case N => k_asm); (case k1 => k_extra "MINE lst"); (case k2 => k_extra "MINE strs"); (case k3 => k_extra "MINE fit3"); (case k4 => k_extra "MINE fit3"); (case k5 => k_extra "MINE fit3"); (case hw8 => with_unfolding_all rfl); (case hw9 => kmk_pure); k_whole); intro a9 h9 ws9 F9 N9 hv9 l9; (try k_lt l9); (try k_sweep))
  k_with "exec Assign" => ((with_reducible rename HandAt _ => hHA); k_here; (with_reducible refine' unstopAt hHA ?_))
  k_with "exec Assign cons ListComp" => ((with_reducible rename HandAt _ => hHA); k_here; (with_reducible refine' unstopAt hHA ?_))
  k_with "exec Assign cons" => ((with_reducible rename HandAt _ => hHA); k_here; (with_reducible refine' unstopAt hHA ?_))
  k_with "MINE lst2" => first | exact News.isList (by k_asm) (by k_mem) | (refine' listK0 ?Xk ?Fk ?ek; (case Xk => k_asm); (case Fk => k_asm); (case ek => k_is))
  k_with "binaryOp Add ref ref" => (k_here; k_dflt (refine' add_ls ?F ?N ?hw1 ?hw2 ?hw3 ?_; (case F => k_asm); (case N => k_asm); (case hw1 => k_extra "MINE lst2"); (case hw2 => k_extra "MINE lst2"); (case hw3 => first | exact Nat.le_of_ble_eq_true rfl | omega | (simp only [List.length_append, List.length_cons, List.length_nil] at *; omega)); k_whole); intro a9 h9 F9 N9 l9; (try k_lt l9); (try k_sweep))
  k_with "MINE strs" => first | assumption | exact StrsAre.append' (by assumption) (by assumption) | exact StrsAre.append' (by repeat constructor) (by repeat constructor) | (repeat constructor)
  trivial

theorem words22_46 : True := by
  k_with "call ref" => (k_here; (with_reducible show wpAny _ _ (call (Value.ref 186) _) _ _ _); k_dflt (refine' use1 (one_does _ _ _ _ _ _ ?hw1 ?hw2 ?hw3) ?U ?B ?F ?X ?T ?N ?hA ?hh ?hg ?hf ?hke ?hD ?hU ?hn ?_; (case B => k_asm); (case F => k_asm); (case X => k_asm); (case T => k_asm); (case N => k_asm); (case hA => exact rfl); (case hh => exact rfl); (case hg => exact rfl); (case hf => exact rfl); (case hke => exact rfl); (case hD => exact Nat.le_of_ble_eq_true rfl); (case hU => exact Nat.le_of_ble_eq_true rfl); (case U => k_updF); (case hn => k_extra "MINE one"); (case hw2 => k_asm); (case hw1 => (first | assumption | omega)); (case hw3 => k_extra "MINE lens"); k_whole); intro v9 h9 tk9 o9 F9 N9 p9; obtain ⟨hs9, hm9⟩ := p9; (first | (refine' (mem_strs ?hw4 hm9).elim ?_; (case hw4 => k_extra "MINE strs"); intro y9 h9; obtain ⟨t9, e9, hy9⟩ := h9; subst e9; clear hm9) | (refine' (mem_ints ?hw4 hm9).elim ?_; (case hw4 => (first | assumption | (repeat constructor))); intro y9 h9; obtain ⟨t9, e9, hy9⟩ := h9; subst e9; clear hm9)); (try dsimp only at N9); (try k_sweep))
  trivial

/-- the end of a statement whose rest is walked once: what stays is said by C -/
def CutM (h₀ : Heap) (L : Addr) (C : (Str → Option Value) → Led → Prop) (s₁ s₂ : Shared) : Prop := ∃ h' tk' m' nx, s₂ = { s₁ with heap := h', toks := tk' } ∧ Fr h₀ L h' m' ∧ News h₀ L h' nx ∧ C m' nx
theorem CutM.intro {h₀ : Heap} {L : Addr} {C : (Str → Option Value) → Led → Prop} {s₁ : Shared} {h' : Heap} {tk : Nat} {m' : Str → Option Value} {all : Led} (nx : Led) (F : Fr h₀ L h' m') (N : News h₀ L h' all) (hs : ∀ p ∈ nx, p ∈ all) (c : C m' nx) :
    CutM h₀ L C s₁ { s₁ with heap := h', toks := tk } := ⟨h', tk, m', nx, rfl, F, KStt.news_of N hs, c⟩
theorem cutX {M : Model} {A : Around} {E : Value → Shared → Prop} {s : Shared} {env : Env} {h₀ : Heap} {L : Addr} {m : Str → Option Value} {st : Stmt} {Q : Flow → Shared → Prop} (C : (Str → Option Value) → (Str → Option Value) → Led → Prop) (_F : Fr h₀ L s.heap m)
    (h1 : wpAny M A (exec st env) (fun f s' => match f with | .next => CutM h₀ L (C m) s s' | f => Q f s') E s)
    (h2 : ∀ h' tk' m' nx, C m m' nx → Fr h₀ L h' m' → News h₀ L h' nx → Q .next { s with heap := h', toks := tk' }) : wpAny M A (exec st env) Q E s := by
  refine wpAny_mono h1 (fun f s' hf => ?_) fun _ _ e => e
  cases f with
  | next =>
    obtain ⟨h', tk', m', nx, rfl, F', N', c⟩ := hf
    exact h2 h' tk' m' nx c F' N'
  | ret v => exact hf
  | brk => exact hf
  | cont => exact hf
/-- the end of a turn of a comprehension without a test -/
def LeafC (h₀ : Heap) (L : Addr) (m : Str → Option Value) (s₁ : Shared) (I : Addr) (oI : Obj) (C : Addr) (oC : Obj) (D : Addr) (oD : Obj) (J : Value → Led → Prop) (y : Value) (s₂ : Shared) : Prop := LCg.CompEnd h₀ L m s₁ I oI C oC D oD (fun _ => True) J y s₂
theorem LeafC.intro {h₀ : Heap} {L I C D : Addr} {m : Str → Option Value} {s₁ : Shared} {oI oC oD : Obj} {J : Value → Led → Prop} {y : Value} {h' : Heap} {tk : Nat} {all : Led}
    (F : Fr h₀ L h' m) (N : News h₀ L h' all) (nx : Led) (sub : ∀ p ∈ (I, oI) :: (C, oC) :: (D, oD) :: nx, p ∈ all) (off : LCg.Off3 I C D nx) (j : J y nx) :
    LeafC h₀ L m s₁ I oI C oC D oD J y { s₁ with heap := h', toks := tk } := ⟨h', tk, nx, rfl, F, fun p hp => N p (sub p hp), off, trivial, j⟩
section
variable {prog : Program} {w : World} {A : Around} {h₀ : Heap} {L : Addr} {m : Str → Option Value} {env : Env} {elt : PySem.Expr} {x : Str} {scope : Scope} {cl : List (Str × Addr)} {s : Shared} {S : Led → Prop} {P : Nat → Value → Prop} {Fin : List Value → Led → Prop}
/-- a comprehension without a test, turn by turn, whose ledger may change -/
theorem rest_gen (J : Nat → List Value → Led → Prop) (hS : ∀ i ys nx, J i ys nx → S nx) (n : Nat) (fin : ∀ ys nx, J n ys nx → Fin ys nx)
    (step : ∀ i v ys nx I oI C oC D m₂ h tk (E' : Value → Shared → Prop), i < n → P i v → J i ys nx → LCg.NsObj oC m₂ → m₂ x = some v → Fr h₀ L h m → News h₀ L h ((I, oI) :: (C, oC) :: (D, LCg.lst ys) :: nx) →
      LCg.Off3 I C D nx → ((@Ne Nat I C) ∧ (@Ne Nat I D) ∧ (@Ne Nat C D)) →
      wpAny (model prog w) A (eval elt (compEnvC scope cl C env)) (LeafC h₀ L m { s with heap := h, toks := tk } I oI C oC D (LCg.lst ys) (fun y nx' => J (i + 1) (ys ++ [y]) nx')) E' { s with heap := h, toks := tk }) :
    ∀ k i ys nx, i + k = n → J i ys nx → LCg.CompRest prog w A h₀ L m env elt x scope cl s S P Fin k i ys nx
  | 0, i, ys, nx, hk, hJ => fin ys nx ((show i = n by omega) ▸ hJ)
  | k + 1, i, ys, nx, hk, hJ => by
    refine LCg.CompRest.succ fun v I oI C oC D m₂ h tk E' hP hoC hx F N off hne => ?_
    refine wpAny_mono (step i v ys nx I oI C oC D m₂ h tk E' (by omega) hP hJ hoC hx F N off hne) (fun y s₂ h₂ => ?_) fun _ _ e => e
    obtain ⟨h₃, tk₃, nx', rfl, F₃, N₃, off₃, _, j⟩ := h₂
    exact ⟨h₃, tk₃, nx', rfl, F₃, N₃, off₃, hS _ _ _ j, rest_gen J hS n fin step k (i + 1) _ nx' (by omega) j⟩
end
theorem kinds_len : ∀ y ∈ [Str.ofString "CDATA", Str.ofString "ID", Str.ofString "IDREF", Str.ofString "IDREFS", Str.ofString "ENTITY", Str.ofString "ENTITIES", Str.ofString "NMTOKEN", Str.ofString "NMTOKENS", Str.ofString "enumeration", Str.ofString "notation"] ++ [Str.ofString "enumeration", Str.ofString "notation"], y.length ≤ 20 := by decide
abbrev some8 : List Str := [Str.ofString "a", Str.ofString "b", Str.ofString "x.y-1", Str.ofString "1a", Str.ofString "-b", Str.ofString "_z", Str.ofString "a,b", Str.ofString "("]
theorem some_keys : ∀ y ∈ some8, y ∈ keysT := by decide
theorem take8 {i : Int} (h : i ∈ ([3, 3, 6, 8] : List Int)) : 3 ≤ (some8.take i.toNat).length ∧ (some8.take i.toNat).length ≤ 8 := by
  have := ints3 h
  rw [List.length_take, show some8.length = 8 from rfl]; omega
/-- a mark: the source of the next comprehension is taken by hand -/
structure HandSrc : Prop where
  mark :: (one : True)
theorem item_strs {prog : Program} {w : World} {A : Around} {E : Value → Shared → Prop} {s : Shared} {value slice : PySem.Expr} {l : Addr} {vs : List Value} {ss : List Str} {k : Int} {u : Tok} {Q : Value → Shared → Prop} (hl : s.heap.IsList l vs.toArray) (hs : StrsAre vs ss)
    (h0 : 0 ≤ k) (hk : k < ss.length) (hsz : ss.length ≤ 3000) (h : ∀ y t, ss[k.toNat]? = some y → y ∈ ss → Q (.str y t) s)
    (he : subscripted slice false (.ref l) (.int k u) = operate [.ref l, .int k u] (getItem (.ref l) (.int k u)) := by with_unfolding_all rfl) (hg : ∀ r, letTemporaryGo value (.ref l) r = pure () := by intro _; with_unfolding_all rfl) :
    wpAny (model prog w) A (subscriptTail value slice (.ref l) (.int k u)) Q E s := by
  have hb : k.toNat < vs.length := by rw [strs_len hs]; omega
  obtain ⟨y, t, hy, e⟩ := strs_get hs (List.getElem?_eq_getElem hb)
  exact PyProof.Rows.item_listL hl h0 (by omega) ((List.getElem?_eq_getElem hb).trans (congrArg some e)) (h y t hy (List.mem_of_getElem? hy)) he hg
theorem keys_take {cs ss : List Str} {k : Nat} (h1 : ∀ w ∈ cs, w ∈ keysT) (h2 : ∀ w ∈ ss, w ∈ keysT) : ∀ w ∈ (cs ++ ss).take k, w ∈ keysT := fun w hw => by
  rcases List.mem_append.mp (List.mem_of_mem_take hw) with h | h
  · exact h1 w h
  · exact h2 w h
theorem lens_take {ws : List Value} {cs ss : List Str} {k : Int} (h : StrsAre ws ((cs ++ ss).take k.toNat)) (h1 : cs.length ≤ 3) (h2 : 3 ≤ ss.length) (h3 : ss.length ≤ 8) (h4 : 0 < k) : 0 < ws.length ∧ ws.length ≤ 1000 := by
  have := strs_len h
  rw [List.length_take, List.length_append] at this
  omega
theorem words22_47 : True := by
  k_with "MINE keys" => first | assumption | exact keys_take (by assumption) (by assumption)
  k_with "MINE lens" => first | assumption | exact ⟨Nat.le_of_ble_eq_true rfl, Nat.le_of_ble_eq_true rfl⟩ | (constructor <;> (first | assumption | omega | decide)) | exact lens_take (by assumption) (by omega) (by omega) (by omega) (by omega)
  k_with "call ref" => (k_here; (with_reducible show wpAny _ _ (call (Value.ref 201) _) _ _ _); k_dflt (refine' use1 (value_does _ _ _ _ _ _ _ ?hw1 ?hw2 ?hw3 ?hw4 ?hw5) ?U ?B ?F ?X ?T ?N ?hA ?hh ?hg ?hf ?hke ?hD ?hU ?hn ?_; (case B => k_asm); (case F => k_asm); (case X => k_asm); (case T => k_asm); (case N => k_asm); (case hA => exact rfl); (case hh => exact rfl); (case hg => exact rfl); (case hf => exact rfl); (case hke => exact rfl); (case hD => exact Nat.le_of_ble_eq_true rfl); (case hU => exact Nat.le_of_ble_eq_true rfl); (case U => k_updF); (case hn => k_extra "MINE one"); (case hw2 => k_asm); (case hw1 => (first | assumption | omega)); (case hw4 => k_extra "MINE strs"); (case hw3 => k_extra "MINE lens"); (case hw5 => k_extra "MINE keys"); k_whole); intro v9 h9 tk9 o9 F9 N9 p9; obtain ⟨hs9, y9, t9, e9, hy9⟩ := p9; subst e9; (try dsimp only at N9); (try k_sweep))
  k_with "subscriptTail Name Name ref int" => (k_here; k_dflt (refine' item_strs ?k1 ?k2 ?k3 ?k4 ?k5 ?_; (case k1 => k_extra "MINE lst"); (case k2 => assumption); (case k3 => omega); (case k4 => omega); (case k5 => omega)); intro z9 t9 hz9 hzm9)
  k_with "call ref" => (k_here; (with_reducible show wpAny _ _ (call (Value.ref 126) _) _ _ _); k_dflt (refine' make_rule ?B ?F ?X ?T ?N ?hA ?hh ?hg ?hf ?hke ?hD ?hU ?hch ?hcl ?_; (case B => k_asm); (case F => k_asm); (case X => k_asm); (case T => k_asm); (case N => k_asm); (case hA => exact rfl); (case hh => exact rfl); (case hg => exact rfl); (case hf => exact rfl); (case hke => exact rfl); (case hD => exact Nat.le_of_ble_eq_true rfl); (case hU => exact Nat.le_of_ble_eq_true rfl); (case hch => k_mem); (case hcl => (first | assumption | omega)); k_whole); intro rx rdx rt ru1 ru2 ru3 ru4 hR tkR FR NR lR1 lR2 lRx lRt; (try k_lt lR1); (try k_lt lR2); (try k_sweep))
  k_with "CompSrc" => ((with_reducible rename HandSrc => hHS); refine unstop ?_)
  k_with "CompSrcT" => ((with_reducible rename HandSrc => hHS); refine unstop ?_)
  trivial

section
variable {prog : Program} {w : World} {A : Around} {E : Value → Shared → Prop} {s : Shared} {Q : Value → Shared → Prop} {o : Option Str} {v u : Value}
theorem ne_opt (h1 : IsOpt o v) (h2 : IsOpt o u) (h : Q (.bool false) s) : wpAny (model prog w) A (compareOp .NotEq v u) Q E s := by
  cases h1 with
  | none => cases h2 with | none => exact PySem.EqNone.ne_none_none h
  | some x t => cases h2 with | some _ u => exact PyProof.Rows.ne_str (by rw [show (x != x) = false from by simp]; exact h)
theorem eq_opt (h1 : IsOpt o v) (h2 : IsOpt o u) (h : Q (.bool true) s) : wpAny (model prog w) A (compareOp .Eq v u) Q E s := by
  cases h1 with
  | none => cases h2 with | none => exact PySem.EqNone.eq_none_none h
  | some x t => cases h2 with | some _ u => exact PyProof.Rows.eq_str (by rw [show (x == x) = true from by simp]; exact h)
def optD (o : Option Str) : PyData := match o with | none => .none | some x => .str x
theorem opt_reads {h : Heap} (ho : IsOpt o v) : Reads h v (optD o) [] := by
  cases ho with
  | none => exact .none
  | some x t => exact .str x t
theorem strs_eqv : ∀ ss : List Str, PyData.eqvAll (ss.map PyData.str) (ss.map PyData.str) = true := fun ss => by rw [eqv_strs]; simp
/-- the row of a rule beside the tuple of its parts -/
theorem ne_row {kind mode : Str} {qk tm qk' tm' : Tok} {cvs : List Value} {cs : List Str} {a b t t' : Addr} {v' : Value} (ha : s.heap.IsTuple a [.str kind qk, .ref t, .str mode tm, v].toArray) (hb : s.heap.IsTuple b [.str kind qk', .ref t', .str mode tm', v'].toArray)
    (ht : s.heap.IsTuple t cvs.toArray) (ht' : s.heap.IsTuple t' cvs.toArray) (hcs : StrsAre cvs cs) (hca : ∀ x ∈ cs, Asc x) (hk : Asc kind) (hm : Asc mode) (h1 : IsOpt o v) (h2 : IsOpt o v') (hoa : ∀ x, o = some x → Asc x) (hu : A.units + 64 < cLine)
    (h : Q (.bool false) s) : wpAny (model prog w) A (compareOp .NotEq (.ref a) (.ref b)) Q E s := by
  have rt : ∀ {t : Addr}, s.heap.IsTuple t cvs.toArray → Reads s.heap (.ref t) (.tuple (cs.map PyData.str)) [] := fun ht => reads_newDataT ht (strs_carried hcs)
  have r : ∀ {a t : Addr} {qk tm : Tok} {v : Value}, s.heap.IsTuple a [.str kind qk, .ref t, .str mode tm, v].toArray → s.heap.IsTuple t cvs.toArray → IsOpt o v →
      Reads s.heap (.ref a) (.tuple [.str kind, .tuple (cs.map PyData.str), .str mode, optD o]) [] := fun ha ht ho => by
    obtain ⟨ob, hg, hc, n, hd⟩ := ha
    exact Reads.tuple hg hc hd (.cons (as := []) (bs := []) (.str _ _) (.cons (as := []) (bs := []) (rt ht) (.cons (as := []) (bs := []) (.str _ _) (.cons (as := []) (bs := []) (opt_reads ho) .nil))))
  have hsh : SeqAt.shaped (.tuple [.str kind, .tuple (cs.map PyData.str), .str mode, optD o]) = true := by
    have hl := strs_lay hca
    have k1 := strOk_asc hk
    have k2 := strOk_asc hm
    cases o with
    | none => simp [optD, SeqAt.shaped, PyData.canLay0, PyData.canLayAll0, PyData.depth, PyData.depthAll, hl.1, hl.2, k1, k2]
    | some x =>
      have k3 := strOk_asc (hoa x rfl)
      simp [optD, SeqAt.shaped, PyData.canLay0, PyData.canLayAll0, PyData.depth, PyData.depthAll, hl.1, hl.2, k1, k2, k3]
  refine ne_dataH (r ha ht h1) (r hb ht' h2) hsh hsh hu ?_
  have e : PyData.eqv (.tuple [.str kind, .tuple (cs.map PyData.str), .str mode, optD o]) (.tuple [.str kind, .tuple (cs.map PyData.str), .str mode, optD o]) = true := by
    cases o <;> simp [optD, PyData.eqv, PyData.eqvAll, strs_eqv]
  rw [e]; exact h
end
theorem kinds_asc : ∀ y ∈ [Str.ofString "CDATA", Str.ofString "ID", Str.ofString "IDREF", Str.ofString "IDREFS", Str.ofString "ENTITY", Str.ofString "ENTITIES", Str.ofString "NMTOKEN", Str.ofString "NMTOKENS", Str.ofString "enumeration", Str.ofString "notation"] ++ [Str.ofString "enumeration", Str.ofString "notation"], Asc y := by unfold Asc; decide
theorem modes_asc : ∀ y ∈ [Str.ofString "default", Str.ofString "fixed", Str.ofString "implied", Str.ofString "required", Str.ofString "default"], Asc y := by unfold Asc; decide
theorem row_does (e : Wd) (x dx t : Nat) (kind mode : Str) (qk tm u1 u2 u3 u4 : Tok) (ov : Option Str) (vv : Value) (hd : dx < x) (hov : IsOpt ov vv) :
    Does e 116 390 450 [.ref x] [(x, instObj 126 dx), (dx, ruleD e.w.params u1 u2 u3 u4 kind qk t mode tm vv)]
      (fun r n' => ∃ n'', n' = n'' ++ [(x, instObj 126 dx), (dx, ruleD e.w.params u1 u2 u3 u4 kind qk t mode tm vv)] ∧ ∃ a : Nat, r = .ref a ∧ n'' = [(a, tupO [.str kind qk, .ref t, .str mode tm, vv])]) := by
  k_dflt (refine' enter (binds := [(Str.ofString "self", .ref x)]) ?k6 ?k7 ?k8 ?k9 ?kB ?_ ?c5 ?c2 ?c3 ?c4; (case k6 => k_is); (case k7 => k_is); (case k8 => decide); (case k9 => intro s; exact BindsTo.of_eq rfl); (case kB => exact locs rfl); (case c5 => decide); (case c2 => exact rfl); (case c3 => exact rfl); (case c4 => exact rfl); k_whole; intro base g envs s0 L' h' tk' B' X' T' F' N' l1; (try k_lt l1); (try dsimp only [List.reverse, List.reverseAux] at F'); (try dsimp only); (try k_fold))
  cases hov with
  | none =>
    k_steps
    (first | (dsimp only; refine' Back.intro _ ?Fq46 ?Nq46 ?_; (case Fq46 => k_asm); (case Nq46 => k_asm)) | (refine' Back.intro _ ?Fq46 ?Nq46 ?_; (case Fq46 => k_asm); (case Nq46 => k_asm)))
    exact ⟨_, rfl, _, rfl, rfl⟩
  | some v tv =>
    k_steps
    (first | (dsimp only; refine' Back.intro _ ?Fq47 ?Nq47 ?_; (case Fq47 => k_asm); (case Nq47 => k_asm)) | (refine' Back.intro _ ?Fq47 ?Nq47 ?_; (case Fq47 => k_asm); (case Nq47 => k_asm)))
    exact ⟨_, rfl, _, rfl, rfl⟩
theorem words22_48 : True := by
  k_with "call ref" => (k_here; (with_reducible show wpAny _ _ (call (Value.ref 116) _) _ _ _); k_dflt (refine' use0 (row_does _ _ _ _ _ _ _ _ _ _ _ _ _ _ ?hw1 ?hw2) ?B ?F ?X ?T ?N ?hA ?hh ?hg ?hf ?hke ?hD ?hU ?hn ?_; (case B => k_asm); (case F => k_asm); (case X => k_asm); (case T => k_asm); (case N => k_asm); (case hA => exact rfl); (case hh => exact rfl); (case hg => exact rfl); (case hf => exact rfl); (case hke => exact rfl); (case hD => exact Nat.le_of_ble_eq_true rfl); (case hU => exact Nat.le_of_ble_eq_true rfl); (case hn => k_extra "MINE two"); (case hw1 => assumption); (case hw2 => k_extra "MINE opt"); k_whole); intro v9 h9 tk9 n9 F9 N9 ap9 p9; obtain ⟨a9, e9, hn9⟩ := p9; subst hn9; subst e9; (try simp only [List.cons_append, List.nil_append] at N9); (try k_sweep))
  trivial

theorem words22_49 : True := by
  k_with "MINE asc" => first | assumption | exact split_asc (by assumption) | exact wordsOf_asc (by assumption) | (intro x9 hx9; rw [List.mem_singleton.mp hx9]; assumption)
  k_with "compareOp NotEq ref ref" => (k_here; k_dflt (first | (refine' ne_row ?k1 ?k2 ?k3 ?k4 ?k5 ?k6 ?k7 ?k8 ?k9 ?k10 ?k11 ?k12 ?_; (case k1 => k_extra "MINE tup"); (case k2 => k_extra "MINE tup"); (case k3 => k_extra "MINE tup"); (case k4 => k_extra "MINE tup"); (case k5 => assumption); (case k6 => assumption); (case k7 => assumption); (case k8 => assumption); (case k9 => k_extra "MINE opt"); (case k10 => k_extra "MINE opt"); (case k11 => assumption); (case k12 => exact Nat.le_of_ble_eq_true rfl)) | (refine' ne_strs ?k1 ?k2 ?k3 ?k4 ?k5 ?k6 ?k7 ?_; (case k1 => k_extra "MINE lst"); (case k2 => k_extra "MINE lst"); (case k3 => k_extra "MINE strs"); (case k4 => k_extra "MINE strs"); (case k5 => k_extra "MINE asc"); (case k6 => k_extra "MINE asc"); (case k7 => exact Nat.le_of_ble_eq_true rfl)); k_whole); (try simp only [reduceCtorEq, decide_false, decide_true]))
  trivial

theorem words_count {kind x : Str} {vs : List Value} (hs : StrsAre vs (wordsOf kind x)) (h : x.length ≤ 1000) : vs.toArray.size ≤ sizeLine := by
  have : vs.length ≤ 3000 := by
    unfold wordsOf at hs
    split at hs
    · exact split_count hs h
    · rw [strs_len hs]; exact Nat.le_of_ble_eq_true rfl
  rw [PySem.sizeLine_eq, List.size_toArray]; omega
theorem words22_50 : True := by
  k_with "call type:list" => (k_here; (with_reducible show wpAny _ _ (call (Value.type _) [Value.ref _]) _ _ _); k_dflt (refine' list_copyK ?k1 ?k2 ?k3 ?_ ?z; (case k1 => k_asm); (case k2 => k_asm); (case k3 => k_extra "MINE lst"); (case z => exact words_count (by assumption) (by assumption)); k_whole); intro D' c' h' F' N' l1; (try k_lt l1); (try k_sweep))
  trivial

theorem words22_51 : True := by
  k_with "call ref" => (k_here; (with_reducible show wpAny _ _ (call (Value.ref 225) _) _ _ _); k_dflt (refine' use0 (misfit_does _ _ _ _ _ _ _ _ _ _ _ ?hof ?hcs ?hl ?hk ?hv ?hva ?hw1) ?B ?F ?X ?T ?N ?hA ?hh ?hg ?hf ?hke ?hD ?hU ?hn ?_; (case B => k_asm); (case F => k_asm); (case X => k_asm); (case T => k_asm); (case N => k_asm); (case hA => exact rfl); (case hh => exact rfl); (case hg => exact rfl); (case hf => exact rfl); (case hke => exact rfl); (case hD => exact Nat.le_of_ble_eq_true rfl); (case hU => exact Nat.le_of_ble_eq_true rfl); (case hn => k_extra "MINE one"); (case hof => k_extra "MINE opt"); (case hcs => assumption); (case hl => assumption); (case hk => assumption); (case hv => (first | assumption | omega)); (case hva => assumption); (case hw1 => (intro f9 hf9; first | (cases hf9; done) | (cases hf9; first | assumption | omega))); k_whole); intro v9 h9 tk9 n9 F9 N9 ap9 p9; obtain ⟨hn9, p9⟩ := p9; subst hn9; clear ap9; (try simp only [List.nil_append] at N9); (try k_sweep))
  trivial


section
variable {prog : Program} {w : World} {A : Around} {E : Value → Shared → Prop} {R : Result → Shared → Prop} {s : Shared}
/-- one turn of a comprehension of two clauses, the outer and the inner -/
theorem turn_out (elt t1 i1 t2 i2 ct : PySem.Expr) (scope : Scope) (pos : Pos) (it acc : Value) (env : Env) :
    compTurn (.ListComp elt [⟨t1, i1, [], 0⟩, ⟨t2, i2, [ct], 0⟩] scope pos) 0 it acc env = (standAt i1.pos >>= fun _ => pyNext it >>= fun r => match r with
      | none => pure (.done .next)
      | some v => letOwnedTupleGo t1 it v >>= fun _ => assign t1 env v >>= fun _ => eval i2 env >>= fun x => standAt i2.pos >>= fun _ => foldedSetIterable i2 env x >>= fun x' =>
        holding [x'] (pyIter x') >>= fun it2 => runOwn (.compStart (.ListComp elt [⟨t1, i1, [], 0⟩, ⟨t2, i2, [ct], 0⟩] scope pos) 1 it2 acc env) env >>= fun _ =>
          again (.compLoop (.ListComp elt [⟨t1, i1, [], 0⟩, ⟨t2, i2, [ct], 0⟩] scope pos) 0 it acc env)) := by rfl
theorem turn_in (elt t1 i1 t2 i2 ct : PySem.Expr) (scope : Scope) (pos : Pos) (it acc : Value) (env : Env) :
    compTurn (.ListComp elt [⟨t1, i1, [], 0⟩, ⟨t2, i2, [ct], 0⟩] scope pos) 1 it acc env = (do
      standAt i2.pos
      match ← pyNext it with
      | none => pure (.done .next)
      | some v =>
        letOwnedTupleGo t2 it v
        assign t2 env v
        let mut ok := true
        for c in [ct] do
          if ok then ok ← isTrue c env (eval c env)
        if ok then
          (do let _ ← call (.builtin "list.append") [acc, ← eval elt env])
        again (.compLoop (.ListComp elt [⟨t1, i1, [], 0⟩, ⟨t2, i2, [ct], 0⟩] scope pos) 1 it acc env)) := by rfl
theorem loop_in {elt t1 i1 t2 i2 ct : PySem.Expr} {scope : Scope} {pos : Pos} {it acc : Value} {env : Env} (I : Nat → Shared → Prop)
    (turn : ∀ n s, I n s → wpAny (model prog w) A (pyNext it) (fun r s₁ => match r with
      | none => R (.ok .next) s₁
      | some v => wpAny (model prog w) A (assign t2 env v) (fun _ s₂ =>
          wpAny (model prog w) A (isTrue ct env (eval ct env)) (fun ok s₃ => ok = false ∧ ∃ m, m < n ∧ I m s₃) (notedBy (model prog w) A env fun e s' => R (.error e) s') s₂) (notedBy (model prog w) A env fun e s' => R (.error e) s') s₁) (notedBy (model prog w) A env fun e s' => R (.error e) s') s)
    (n : Nat) (h : I n s) (ht : ∀ v, letOwnedTupleGo t2 it v = pure () := by intro _; rfl) :
    codeAny (model prog w) A (.compLoop (.ListComp elt [⟨t1, i1, [], 0⟩, ⟨t2, i2, [ct], 0⟩] scope pos) 1 it acc env) R s := by
  refine codeAny_loop rfl I (fun n s hI => ?_) n h
  show wpAny _ A ((compTurn (.ListComp elt [⟨t1, i1, [], 0⟩, ⟨t2, i2, [ct], 0⟩] scope pos) 1 it acc env).onRaise (fun x => do noteFrame x env; theTreesLotGoes x)) _ _ s
  refine wpAny_noted ?_
  rw [turn_in]
  refine wpAny_bind (wpAny_standAt (wpAny_bind (wpAny_mono (turn n s hI) (fun r s₁ h₁ => ?_) fun _ _ h' => h')))
  cases r with
  | none => exact wpAny_pure h₁
  | some v =>
    refine wpAny_bind (wpAny_of_eq (ht v) ?_)
    refine wpAny_bind (wpAny_mono h₁ (fun _ s₂ h₂ => wpAny_bind (wpAny_mono (wpAny_tests_one h₂) (fun ok s₃ h₃ => ?_) fun _ _ h' => h')) fun _ _ h' => h')
    obtain ⟨rfl, h₃⟩ := h₃
    exact wpAny_pure ⟨rfl, h₃⟩
theorem start_in {elt target iter : PySem.Expr} {c1 : Comprehension} {ifs : List PySem.Expr} {rest : List Comprehension} {scope : Scope} {pos : Pos} {it acc : Value} {env : Env}
    (h0 : codeAny (model prog w) A (.compLoop (.ListComp elt (c1 :: ⟨target, iter, ifs, 0⟩ :: rest) scope pos) 1 it acc env) R s)
    (h : wpAny (model prog w) A (pyIter it) (fun it' s' => codeAny (model prog w) A (.compLoop (.ListComp elt (c1 :: ⟨target, iter, ifs, 0⟩ :: rest) scope pos) 1 it' acc env) R s')
      (notedBy (model prog w) A env fun x s' => R (.error x) s') s) :
    codeAny (model prog w) A (.compStart (.ListComp elt (c1 :: ⟨target, iter, ifs, 0⟩ :: rest) scope pos) 1 it acc env) R s := by
  refine codeAny_of_tree ?_
  show wpAny _ _ ((compStart (.ListComp elt (c1 :: ⟨target, iter, ifs, 0⟩ :: rest) scope pos) 1 it acc env).onRaise (fun x => do noteFrame x env; standAt theWindowsPlace)) _ _ s
  refine wpAny_notedAt ?_
  unfold compStart
  show wpAny _ _ (ask >>= _) _ _ s
  refine wpAny_bind (wpAny_askSetting (wpAny_ite ?_))
  split
  · first
      | exact wpAny_bind (wpAny_pure (wpAny_pure (And.intro rfl h0)))
      | exact wpAny_pure (And.intro rfl h0)
  · first
      | exact wpAny_bind (wpAny_rule (wpAny_bind (wpAny_standAt (wpAny_bind (wpAny_mono h (fun it' s' h' => wpAny_pure (And.intro rfl h')) fun _ _ x => x)))))
      | (refine wpAny_bind (wpAny_rule ?_); show wpAny _ _ (standAt iter.pos >>= _) _ _ s; exact wpAny_bind (wpAny_standAt (wpAny_bind (wpAny_mono h (fun it' s' h' => wpAny_pure (And.intro rfl h')) fun _ _ x => x))))
theorem loop_out {elt t1 i1 t2 i2 ct : PySem.Expr} {scope : Scope} {pos : Pos} {it acc : Value} {env : Env} (I : Nat → Shared → Prop)
    (turn : ∀ n s, I n s → wpAny (model prog w) A (pyNext it) (fun r s₁ => match r with
      | none => R (.ok .next) s₁
      | some v => wpAny (model prog w) A (assign t1 env v) (fun _ s₂ => ∀ E', wpAny (model prog w) A (eval i2 env) (fun x s₃ => ∀ E', wpAny (model prog w) A (pyIter x) (fun it2 s₄ =>
          ∀ R', (∀ s₅, (∃ m, m < n ∧ I m s₅) → R' (.ok .next) s₅) → codeAny (model prog w) A (.compStart (.ListComp elt [⟨t1, i1, [], 0⟩, ⟨t2, i2, [ct], 0⟩] scope pos) 1 it2 acc env) R' s₄) E' s₃) E' s₂) (notedBy (model prog w) A env fun e s' => R (.error e) s') s₁) (notedBy (model prog w) A env fun e s' => R (.error e) s') s)
    (n : Nat) (h : I n s) (ht : ∀ v, letOwnedTupleGo t1 it v = pure () := by intro _; rfl) (hs : ∀ x, foldedSetIterable i2 env x = pure x := by intro _; rfl) (hh : A.handled = none) :
    codeAny (model prog w) A (.compLoop (.ListComp elt [⟨t1, i1, [], 0⟩, ⟨t2, i2, [ct], 0⟩] scope pos) 0 it acc env) R s := by
  refine codeAny_loop rfl I (fun n s hI => ?_) n h
  show wpAny _ A ((compTurn (.ListComp elt [⟨t1, i1, [], 0⟩, ⟨t2, i2, [ct], 0⟩] scope pos) 0 it acc env).onRaise (fun x => do noteFrame x env; theTreesLotGoes x)) _ _ s
  refine wpAny_noted ?_
  rw [turn_out]
  refine wpAny_bind (wpAny_standAt (wpAny_bind (wpAny_mono (turn n s hI) (fun r s₁ h₁ => ?_) fun _ _ h' => h')))
  cases r with
  | none => exact wpAny_pure h₁
  | some v =>
    refine wpAny_bind (wpAny_of_eq (ht v) ?_)
    refine wpAny_bind (wpAny_mono h₁ (fun _ s₂ h₂ => ?_) fun _ _ h' => h')
    refine wpAny_bind (wpAny_mono (h₂ _) (fun x s₃ h₃ => ?_) fun _ _ h' => h')
    refine wpAny_bind (wpAny_standAt (wpAny_bind (wpAny_of_eq (hs x) ?_)))
    refine wpAny_bind (wpAny_holding (wpAny_mono (h₃ _) (fun it2 s₄ h₄ => ?_) fun _ _ h' => h'))
    refine wpAny_bind (wpAny_runOwn ?_ (by intro q; cases q))
    have e : A.mark none = A := rfl
    rw [e]
    exact h₄ _ fun s₅ h₅ => wpAny_pure ⟨rfl, h₅⟩
end
section
variable {prog : Program} {w : World} {A : Around} {E : Value → Shared → Prop} {s : Shared} {h₀ : Heap} {L : Addr} {m : Str → Option Value} {env : Env}
/-- a comprehension of two clauses whose test fails at every turn -/
theorem nest_block {elt i1 i2 ct : PySem.Expr} {x y : Str} {px py : Pos} {scope : Scope} {cl : List (Str × Addr)} {pos : Pos} {s₂ : Shared} {I ax : Addr} {fp : List Addr} {n : Nat} {P : Nat → Value → Prop} {St : Nat → Heap → Prop} {news : Led} {its : Array Value} {k : Nat} {RR : Value → Addr → Result → Shared → Prop}
    (hh : A.handled = none) (WW : Walks prog w A I fp [I] n P St) (hIo : ∀ i h, St i h → ∃ o, h.get? I = some o)
    (hSt : ∀ i h h' o, St i h → h.get? I = some o → h'.get? I = some o → News h₀ L h' news → St i h')
    (hcell : ∀ y ∈ scope.names, y.2 ≠ .cell) (hkind : scope.kind = .function) (hx : scope.names.lookup x = some .local) (hy : scope.names.lookup y = some .local) (hxy : x ≠ y)
    (hst : St 0 s₂.heap) (hfp : ∀ b ∈ fp, b < s₂.heap.objs.size)
    (F : Fr h₀ L s₂.heap m) (N : News h₀ L s₂.heap news) (hIL : L ≠ I) (hI₀ : h₀.get? I = none) (off : ∀ p ∈ news, p.1 ≠ I)
    (ha : (ax, W.listOf its k) ∈ news)
    (step2 : ∀ (i : Nat) (v : Value) I oI C oC D m₂ h tk (E' : Value → Shared → Prop), P i v → LCg.NsObj oC m₂ → m₂ x = some v → Fr h₀ L h m → News h₀ L h ((I, oI) :: (C, oC) :: (D, LCg.lst []) :: news) →
      wpAny (model prog w) A (eval i2 (compEnvC scope cl C env)) (fun xv s' => xv = .ref ax ∧ LeafEnd h₀ L m { s₂ with heap := h, toks := tk } ((I, oI) :: (C, oC) :: (D, LCg.lst []) :: news) (fun _ => True) Value.none s') E' { s₂ with heap := h, toks := tk })
    (step3 : ∀ (i : Nat) (v : Value) (j : Nat) (u : Value) J oJ I oI C oC D m₂ h tk (E' : Value → Shared → Prop), P i v → its[j]? = some u → LCg.NsObj oC m₂ → m₂ x = some v → m₂ y = some u → Fr h₀ L h m → News h₀ L h ((J, oJ) :: (I, oI) :: (C, oC) :: (D, LCg.lst []) :: news) →
      wpAny (model prog w) A (isTrue ct (compEnvC scope cl C env) (eval ct (compEnvC scope cl C env))) (fun ok s' => ok = false ∧ LeafEnd h₀ L m { s₂ with heap := h, toks := tk } ((J, oJ) :: (I, oI) :: (C, oC) :: (D, LCg.lst []) :: news) (fun _ => True) Value.none s') E' { s₂ with heap := h, toks := tk })
    (hRR : ∀ D C h tk m', Fr h₀ L h m → News h₀ L h ((D, LCg.lst []) :: news) → LCg.Off1 D news → h.Ns C m' → h₀.get? C = none → h₀.get? D = none → C ≠ L → D ≠ L → C ≠ D → (∀ p ∈ news, p.1 ≠ C) → RR (.ref D) C (.ok .next) { s₂ with heap := h, toks := tk })
    (hfs : ∀ env x, foldedSetIterable i2 env x = pure x) :
    wpAny (model prog w) A (newList []) (fun acc s₃ => wpAny (model prog w) A (newFunctionEnv scope env.globals cl [] env.qual none .none (some env)) (fun cenv s₄ =>
      codeAny (model prog w) A (.compStart (.ListComp elt [⟨.Name x px, i1, [], 0⟩, ⟨.Name y py, i2, [ct], 0⟩] scope pos) 0 (.ref I) acc { cenv with scope := relabel scope env }) (RR acc cenv.locals) s₄) E s₃) E s₂ := by
  refine wpAny_newObj_type (wpAny_newFunctionEnv hcell (by intro y hy; simp at hy) (fun h₁ hns₁ hsb₁ => ?_) hkind)
  dsimp only at hns₁ hsb₁ ⊢
  generalize hH2 : s₂.heap.push { cls := .type "list", dict := none, data := .seq ([] : List Value).toArray } = H2 at hns₁ hsb₁ ⊢
  have hC : H2.objs.size = s₂.heap.objs.size + 1 := by rw [← hH2, Heap.size_push]
  have hDC : s₂.heap.objs.size ≠ H2.objs.size := by rw [hC]; exact Nat.ne_of_lt (Nat.lt_succ_self _)
  have below : ∀ b, b < s₂.heap.objs.size → b ≠ H2.objs.size ∧ b ≠ s₂.heap.objs.size := fun b hb => ⟨by rw [hC]; exact Nat.ne_of_lt (Nat.lt_succ_of_lt hb), Nat.ne_of_lt hb⟩
  have hCf : H2.objs.size ∉ fp := fun hm => by have := hfp _ hm; rw [hC] at this; exact Nat.lt_irrefl _ (Nat.lt_of_succ_lt this)
  have hIf : I ∈ fp := WW.sub I (List.mem_singleton.mpr rfl)
  have hIlt : I < s₂.heap.objs.size := hfp I hIf
  have old : ∀ b o, s₂.heap.get? b = some o → h₁.get? b = some o := fun b o e => hsb₁.extBut b o (below b (Heap.lt_size e)).1 (Heap.get?_push_of_some _ (hH2 ▸ Heap.get?_push_of_some _ e))
  have hacc : h₁.get? s₂.heap.objs.size = some (LCg.lst []) := hsb₁.extBut _ _ hDC (Heap.get?_push_of_some _ (hH2 ▸ Heap.get?_push_size _ rfl))
  have hst₁ : St 0 h₁ := WW.frame _ _ _ hst fun b _ o e => old b o e
  have fresh : ∀ a, s₂.heap.objs.size ≤ a → s₂.heap.get? a = none := fun a ha => by
    cases e : s₂.heap.get? a with
    | none => rfl
    | some o' => exact absurd (Heap.lt_size e) (Nat.not_lt.mpr ha)
  have fresh₀ : ∀ a, s₂.heap.objs.size ≤ a → h₀.get? a = none := fun a ha => by
    cases e : h₀.get? a with
    | none => rfl
    | some o' => have := F.keep a o' e; rw [fresh a ha] at this; cases this
  have hD₀ : h₀.get? s₂.heap.objs.size = none := fresh₀ _ (Nat.le_refl _)
  have hC₀ : h₀.get? H2.objs.size = none := fresh₀ _ (by rw [hC]; exact Nat.le_succ _)
  have hLlt : L < s₂.heap.objs.size := F.ns.lt
  have hDL : s₂.heap.objs.size ≠ L := Ne.symm (below L hLlt).2
  have hCL : H2.objs.size ≠ L := Ne.symm (below L hLlt).1
  have hCI : I ≠ H2.objs.size := (below I hIlt).1
  have hDI : I ≠ s₂.heap.objs.size := (below I hIlt).2
  have hnC : ∀ p ∈ news, p.1 ≠ H2.objs.size := fun p hp => (below _ (Heap.lt_size (N p hp).1)).1
  have hnD : ∀ p ∈ news, p.1 ≠ s₂.heap.objs.size := fun p hp => (below _ (Heap.lt_size (N p hp).1)).2
  have N₁ : News h₀ L h₁ ((s₂.heap.objs.size, LCg.lst []) :: news) := fun p hp => by
    rcases List.mem_cons.mp hp with rfl | hp
    · exact ⟨hacc, hDL, hD₀⟩
    · exact ⟨old _ _ (N p hp).1, (N p hp).2⟩
  generalize hDd : s₂.heap.objs.size = D at hC hDC hacc hD₀ hDL hDI hnD N₁ ⊢
  generalize hCc : H2.objs.size = C at hC hDC hCf hC₀ hCL hCI hnC hns₁ ⊢
  have loop : ∀ s₃ : Shared, s₃ = { s₂ with heap := h₁, toks := s₂.toks + ([] : List (Str × Value)).length } →
      codeAny (model prog w) A (.compLoop (.ListComp elt [⟨.Name x px, i1, [], 0⟩, ⟨.Name y py, i2, [ct], 0⟩] scope pos) 0 (.ref I) (.ref D) (compEnvC scope cl C env)) (RR (.ref D) C) s₃ := by
    rintro s₃ rfl
    refine loop_out (hh := hh) (hs := hfs _)
      (fun k s' => ∃ h' tk i m', s' = { s₂ with heap := h', toks := tk } ∧ i ≤ n ∧ k = n + 1 - i ∧ St i h' ∧ Fr h₀ L h' m ∧ h'.Ns C m' ∧ News h₀ L h' ((D, LCg.lst []) :: news)) ?_ (n + 1)
      ⟨h₁, _, 0, _, rfl, Nat.zero_le _, rfl, hst₁, F.keeps old, hns₁, N₁⟩
    rintro k s' ⟨h', tk, i, m', rfl, hi, rfl, hst', F', hn', N'⟩
    by_cases hlt : i < n
    · refine WW.item i _ _ _ hlt hst' fun v h₂ tk₂ hPv hst₂ hk₂ => ?_
      refine wpAny_assign_Name (wpAny_storeName_local (lookup_relabel_local hx) (hn'.at' fun o e => hk₂ _ o (by simpa using Ne.symm hCI) e) (fun h₃ hn₃ hs₃ => ?_) (by simp [compEnvC, relabel, hkind]))
      have hst₃ : St (i + 1) h₃ := WW.frame _ _ _ hst₂ fun b hb o e => hs₃.extBut b o (fun q => hCf (by have q' : b = C := q; rw [← q']; exact hb)) e
      obtain ⟨oI, heI⟩ := hIo _ _ hst₃
      obtain ⟨oC, heC, hoC⟩ := LCg.ns_obj hn₃
      have F₃ : Fr h₀ L h₃ m := (LCg.fr_but F' hk₂ hIL hI₀).change hs₃ hCL hC₀
      have N₂ : News h₀ L h₂ ((D, LCg.lst []) :: news) := LCg.news_but N' hk₂ fun p hp => by
        rcases List.mem_cons.mp hp with rfl | hp
        · exact Ne.symm hDI
        · exact off p hp
      have N₃ : News h₀ L h₃ ((I, oI) :: (C, oC) :: (D, LCg.lst []) :: news) := fun p hp => by
        rcases List.mem_cons.mp hp with rfl | hp
        · exact ⟨heI, Ne.symm hIL, hI₀⟩
        · rcases List.mem_cons.mp hp with rfl | hp
          · exact ⟨heC, hCL, hC₀⟩
          · have z := N₂ p hp
            refine ⟨hs₃.extBut _ _ ?_ z.1, z.2⟩
            rcases List.mem_cons.mp hp with rfl | hp
            · exact hDC
            · exact hnC p hp
      intro E1
      refine wpAny_mono (step2 i v I oI C oC D _ h₃ _ E1 hPv hoC (by simp) F₃ N₃) (fun xv s₄ h₄ => ?_) fun _ _ e => e
      obtain ⟨rfl, h₄, tk₄, rfl, F₄, N₄, _⟩ := h₄
      intro E2
      have zI := (N₄ (I, oI) List.mem_cons_self).1
      have zC := (N₄ (C, oC) (List.mem_cons_of_mem _ List.mem_cons_self)).1
      have N₄' : News h₀ L h₄ ((D, LCg.lst []) :: news) := fun p hp => N₄ p (List.mem_cons_of_mem _ (List.mem_cons_of_mem _ hp))
      have hl₄ : h₄.IsList ax its := ⟨_, (N₄' _ (List.mem_cons_of_mem _ ha)).1, rfl, _, rfl⟩
      have hst₄ : St (i + 1) h₄ := hSt _ _ _ _ hst₃ heI zI fun p hp => N₄' p (List.mem_cons_of_mem _ hp)
      refine wpAny_pyIter_list hl₄ ?_
      intro R' hR'
      have axJ : ax ≠ h₄.objs.size := Nat.ne_of_lt (by obtain ⟨_, e, _⟩ := hl₄; exact Heap.lt_size e)
      have IJ : I ≠ h₄.objs.size := Nat.ne_of_lt (Heap.lt_size zI)
      have CJ : C ≠ h₄.objs.size := Nat.ne_of_lt (Heap.lt_size zC)
      have LJ : L ≠ h₄.objs.size := Nat.ne_of_lt F₄.ns.lt
      have J₀ : h₀.get? h₄.objs.size = none := next_is_new F₄
      have nJ : ∀ p ∈ (D, LCg.lst []) :: news, p.1 ≠ h₄.objs.size := fun p hp => Nat.ne_of_lt (Heap.lt_size (N₄' p hp).1)
      have up : ∀ b o, h₄.get? b = some o → (h₄.push { cls := .type "list_iterator", data := .fields #[.ref ax, .int 0 0] }).get? b = some o := fun b o e => Heap.get?_push_of_some _ e
      have hstJ : (h₄.push { cls := .type "list_iterator", data := .fields #[.ref ax, .int 0 0] }).IsListIter h₄.objs.size ax 0 ∧ (h₄.push { cls := .type "list_iterator", data := .fields #[.ref ax, .int 0 0] }).IsList ax its := ⟨⟨_, Heap.get?_push_size _ rfl, rfl, rfl⟩, hl₄.push _⟩
      have nsJ := (hoC.ns zC).at' fun o e => up C o e
      have NJ : News h₀ L (h₄.push { cls := .type "list_iterator", data := .fields #[.ref ax, .int 0 0] }) ((I, oI) :: (D, LCg.lst []) :: news) := fun p hp => by
        rcases List.mem_cons.mp hp with rfl | hp
        · exact ⟨up _ _ zI, Ne.symm hIL, hI₀⟩
        · exact ⟨up _ _ (N₄' p hp).1, (N₄' p hp).2⟩
      have FJ : Fr h₀ L (h₄.push { cls := .type "list_iterator", data := .fields #[.ref ax, .int 0 0] }) m := F₄.push _
      generalize h₄.push { cls := .type "list_iterator", data := .fields #[.ref ax, .int 0 0] } = h₅ at up hstJ nsJ NJ FJ ⊢
      generalize h₄.objs.size = J at axJ IJ CJ LJ J₀ nJ hstJ ⊢
      have WJ := Walks.list (prog := prog) (w := w) hh J ax axJ its
      have inner : ∀ s₅ : Shared, s₅ = { s₂ with heap := h₅, toks := tk₄ } →
          codeAny (model prog w) A (.compLoop (.ListComp elt [⟨.Name x px, i1, [], 0⟩, ⟨.Name y py, i2, [ct], 0⟩] scope pos) 1 (.ref J) (.ref D) (compEnvC scope cl C env)) R' s₅ := by
        rintro s₅ rfl
        refine loop_in
          (fun k s' => ∃ h' tk j m', s' = { s₂ with heap := h', toks := tk } ∧ j ≤ its.size ∧ k = its.size + 1 - j ∧ (h'.IsListIter J ax j ∧ h'.IsList ax its) ∧ Fr h₀ L h' m ∧ h'.Ns C m' ∧ m' x = some v ∧ News h₀ L h' ((I, oI) :: (D, LCg.lst []) :: news)) ?_ (its.size + 1)
          ⟨h₅, _, 0, _, rfl, Nat.zero_le _, rfl, hstJ, FJ, nsJ, by simp, NJ⟩
        rintro k s' ⟨h6, tk6, j, m6, rfl, hj, rfl, hst6, F6, hn6, hmx, N6⟩
        have nJ6 : ∀ p ∈ (I, oI) :: (D, LCg.lst []) :: news, p.1 ≠ J := fun p hp => by
          rcases List.mem_cons.mp hp with rfl | hp
          · exact IJ
          · exact nJ p hp
        by_cases hjl : j < its.size
        · refine WJ.item j _ _ _ hjl hst6 fun u h7 tk7 hPu hst7 hk7 => ?_
          refine wpAny_assign_Name (wpAny_storeName_local (lookup_relabel_local hy) (hn6.at' fun o e => hk7 _ o (by simpa using CJ) e) (fun h8 hn8 hs8 => ?_) (by simp [compEnvC, relabel, hkind]))
          have N7 : News h₀ L h7 ((I, oI) :: (D, LCg.lst []) :: news) := LCg.news_but N6 hk7 nJ6
          have F8 : Fr h₀ L h8 m := (LCg.fr_but F6 hk7 LJ J₀).change hs8 hCL hC₀
          have hst8 : h8.IsListIter J ax (j + 1) ∧ h8.IsList ax its := WJ.frame (j + 1) _ _ hst7 fun b hb o e => hs8.extBut b o (fun q => by
            have q' : b = C := q
            rcases List.mem_cons.mp hb with e1 | hb
            · exact CJ (q'.symm.trans e1)
            · have e2 := List.mem_singleton.mp hb
              exact hnC _ ha (e2.symm.trans q')) e
          obtain ⟨oC8, heC8, hoC8⟩ := LCg.ns_obj hn8
          obtain ⟨oJ, heJ⟩ : ∃ o, h8.get? J = some o := by obtain ⟨o, e, _⟩ := hst8.1; exact ⟨o, e⟩
          have N8 : News h₀ L h8 ((J, oJ) :: (I, oI) :: (C, oC8) :: (D, LCg.lst []) :: news) := fun p hp => by
            rcases List.mem_cons.mp hp with rfl | hp
            · exact ⟨heJ, Ne.symm LJ, J₀⟩
            · rcases List.mem_cons.mp hp with rfl | hp
              · have z := N7 (I, oI) List.mem_cons_self
                exact ⟨hs8.extBut _ _ hCI z.1, z.2⟩
              · rcases List.mem_cons.mp hp with rfl | hp
                · exact ⟨heC8, hCL, hC₀⟩
                · have z := N7 p (List.mem_cons_of_mem _ hp)
                  refine ⟨hs8.extBut _ _ ?_ z.1, z.2⟩
                  rcases List.mem_cons.mp hp with rfl | hp
                  · exact hDC
                  · exact hnC p hp
          have hmx8 : (fun z => if z = y then some u else m6 z) x = some v := by
            show (if x = y then some u else m6 x) = some v
            rw [if_neg hxy, hmx]
          refine wpAny_mono (step3 i v j u J oJ I oI C oC8 D _ h8 _ _ hPv hPu hoC8 hmx8 (by simp) F8 N8) (fun ok s9 h9 => ?_) fun _ _ e => e
          obtain ⟨rfl, h9, tk9, rfl, F9, N9, _⟩ := h9
          have zJ := (N9 (J, oJ) List.mem_cons_self).1
          have zI9 := (N9 (I, oI) (List.mem_cons_of_mem _ List.mem_cons_self))
          have zC9 := (N9 (C, oC8) (List.mem_cons_of_mem _ (List.mem_cons_of_mem _ List.mem_cons_self))).1
          have N9' : News h₀ L h9 ((D, LCg.lst []) :: news) := fun p hp => N9 p (List.mem_cons_of_mem _ (List.mem_cons_of_mem _ (List.mem_cons_of_mem _ hp)))
          refine ⟨rfl, its.size + 1 - (j + 1), by omega, h9, tk9, j + 1, _, rfl, hjl, rfl, ⟨?_, ?_⟩, F9, hoC8.ns zC9, hmx8, fun p hp => ?_⟩
          · obtain ⟨o', q, r⟩ := hst8.1; rw [heJ] at q; cases q; exact ⟨oJ, zJ, r⟩
          · exact ⟨_, (N9' _ (List.mem_cons_of_mem _ ha)).1, rfl, _, rfl⟩
          · rcases List.mem_cons.mp hp with rfl | hp
            · exact zI9
            · exact N9' p hp
        · obtain rfl : j = its.size := Nat.le_antisymm hj (Nat.not_lt.mp hjl)
          refine WJ.done _ _ _ hst6 fun h7 tk7 hk7 => ?_
          have N7 : News h₀ L h7 ((I, oI) :: (D, LCg.lst []) :: news) := LCg.news_but N6 hk7 nJ6
          refine hR' _ ⟨n + 1 - (i + 1), by omega, h7, tk7, i + 1, _, rfl, hlt, rfl, ?_, LCg.fr_but F6 hk7 LJ J₀, hn6.at' fun o e => hk7 _ o (by simpa using CJ) e, fun p hp => N7 p (List.mem_cons_of_mem _ hp)⟩
          exact hSt _ _ _ _ hst₄ zI (N7 (I, oI) List.mem_cons_self).1 fun p hp => N7 p (List.mem_cons_of_mem _ (List.mem_cons_of_mem _ hp))
      exact start_in (inner _ rfl) (WJ.self 0 _ _ _ hstJ (inner _ rfl))
    · obtain rfl : i = n := Nat.le_antisymm hi (Nat.not_lt.mp hlt)
      refine WW.done _ _ _ hst' fun h₂ tk₂ hk₂ => ?_
      have N₂ : News h₀ L h₂ ((D, LCg.lst []) :: news) := LCg.news_but N' hk₂ fun p hp => by
        rcases List.mem_cons.mp hp with rfl | hp
        · exact Ne.symm hDI
        · exact off p hp
      exact hRR D C h₂ tk₂ _ (LCg.fr_but F' hk₂ hIL hI₀) N₂ ((LCg.Off3.of fun p hp => ⟨off p hp, hnC p hp, hnD p hp⟩ : LCg.Off3 I C D news)).one (hn'.at' fun o e => hk₂ _ o (by simpa using Ne.symm hCI) e) hC₀ hD₀ hCL hDL (Ne.symm hDC) hnC
  exact codeAny_compStart_list (loop _ rfl) (WW.self 0 _ _ _ hst₁ (loop _ rfl))
end

theorem eq_fit {prog : Program} {w : World} {A : Around} {E : Value → Shared → Prop} {s : Shared} {Q : Value → Shared → Prop} {kind v : Str} {cs : List Str} {fx fx' : Option Str} {a b : Value} (hv : ∀ w ∈ splitL v, w ∈ keysT) (he : fx = fx')
    (h1 : IsOpt (fitC (wordC kind) kind cs fx (told kind v)) a) (h2 : IsOpt (fitC (lwordC kind) kind cs fx' (told kind v)) b) (h : Q (.bool true) s) : wpAny (model prog w) A (compareOp .Eq a b) Q E s := by
  subst he
  rw [fit_agree hv] at h1
  exact eq_opt h1 h2 h
theorem bne_dead {x : Str} (h : (x != x) = true) : False := by simp at h
theorem right_does (e : Wd) (src : Nat) (o : Obj) (hs : Src o) :
    Does e 235 305 50 [.ref src] [(src, o)] (fun v n' => ∃ o', n' = (src, o') :: [] ∧ Src o' ∧ v = .bool true) := by
  k_dflt (refine' enterC (binds := [(Str.ofString "source", .ref src)]) ?k6 ?k7 ?k8 ?k9 ?kB ?kD ?_ ?c2 ?c3 ?c4; (case k6 => k_is); (case k7 => k_is); (case k8 => decide); (case k9 => intro s; exact BindsTo.of_eq rfl); (case kB => exact rfl); (case kD => decide +kernel); (case c2 => exact rfl); (case c3 => exact rfl); (case c4 => exact rfl); k_whole; intro base g envs s0 L' h' tk' cells' B' X' T' F' N' Y' l1; (try k_lt l1); k_cells Y'; (try simp only [List.cons_append, List.nil_append] at N'); (try dsimp only); (try k_fold))
  have hHA : HandAt (Str.ofString "choices") := ⟨trivial⟩
  k_steps
  rename_i oc oS0 osr dc dS0 dsr _ _ _ _ _ _ _ _ _ _ kind qk hk _ _ _ _ _ _ _ _ _ mode qm hm _ _ _ _ _ _ _ _ _ h2 oS F2 N2 dS
  have hkl : kind.length ≤ 20 := kinds_len _ hk
  have hka : Asc kind := kinds_asc _ hk
  have hma : Asc mode := modes_asc _ hm
  have htk := take8 hy9
  obtain ⟨ss, hws, hss, hs3, hs8⟩ : ∃ ss, StrsAre ws9 ss ∧ (∀ w ∈ ss, w ∈ keysT) ∧ 3 ≤ ss.length ∧ ss.length ≤ 8 := ⟨_, hv9, fun w hw => some_keys w (List.mem_of_mem_take hw), htk.1, htk.2⟩
  have hwl : ws9.length = ss.length := strs_len hws
  have N3 : News g L' h2 [(a9, W.listOf ws9.toArray 0), (L' + 1 + 1 + 1, oc), (L' + 1 + 1, oS), (L' + 1, osr), (src, o9)] := KStt.news_of N2 (by kstt_sub)
  have l2 := l9.2.2.2.2.2
  clear N2 hv9 hk hm hy9 htk l9
  refine' cutX (fun m m' nx => m' = m ∧ ∃ (a : Nat) (cvs : List Value) (cs : List Str) (ep : Nat) (oC o' : Obj), oC.data = Data.cell (some (.ref a)) ∧ Src o' ∧ StrsAre cvs cs ∧ (∀ w ∈ cs, w ∈ keysT) ∧ cs.length ≤ 3 ∧ (@Ne Nat (L' + 1 + 1 + 1) a ∧ @Ne Nat (L' + 1 + 1) a ∧ @Ne Nat (L' + 1) a ∧ @Ne Nat a9 a ∧ @Ne Nat src a) ∧
    nx = [(a, W.listOf cvs.toArray ep), (a9, W.listOf ws9.toArray 0), (L' + 1 + 1 + 1, oC), (L' + 1 + 1, oS), (L' + 1, osr), (src, o')]) F2 ?_ ?_
  · --#skip
    refine wpAny_Assign_Name ?_
    refine LCg.ListComp_U (F₀ := by k_asm) (by with_unfolding_all rfl) (by decide) (by rfl) (by decide) (by rfl) ?_
    have hHS : HandSrc := ⟨trivial⟩
    k_steps
    unfold Stopped
    clear hHS
    have hr9 : r9 = ((r9.toNat : Nat) : Int) := by omega
    refine' LCg.CompSrc.range (n := r9.toNat) rfl (by assumption) (by assumption) (by assumption) (small_one (by omega) (by omega) (by omega) (by omega)) (by rw [rangeSize_nat]; omega) (by rw [PySem.sizeLine_eq]; omega)
      (fun gg => rest_gen (fun i ys nx => ∃ (o' : Obj) (cs : List Str), nx = [(a9, W.listOf ws9.toArray 0), (L' + 1 + 1 + 1, oc), (L' + 1 + 1, oS), (L' + 1, osr), (src, o')] ∧ Src o' ∧ StrsAre ys cs ∧ (∀ w ∈ cs, w ∈ keysT) ∧ cs.length = i)
        (fun _ _ _ _ => trivial) r9.toNat ?fin ?step _ 0 [] _ (Nat.zero_add _) ⟨o9, [], rfl, hs9, .nil, fun _ h => (nomatch h), rfl⟩)
    case fin =>
      rintro ys nx ⟨o', cs, rfl, hso, hcs, hck, hcl⟩ D h6 tk6 F6 N6 off6
      simp only [LCg.Off1, and_true] at off6
      dsimp only
      k_steps
      exact CutM.intro _ (by k_asm) (by k_asm) (fun _ hp => hp) ⟨rfl, D, ys, cs, _, _, o', by assumption, hso, hcs, hck, by omega, ⟨off6.2.1, off6.2.2.1, off6.2.2.2.1, off6.1, off6.2.2.2.2⟩, rfl⟩
    case step =>
      rintro i v ys nx I oI C oC D m₂ h tk E' hi ⟨tv, rfl⟩ ⟨o', cs, rfl, hso, hcs, hck, hcl⟩ hoC hxx F6 N6 off6 hne
      simp only [LCg.Off3, and_true] at off6
      k_steps
      exact LeafC.intro (by k_asm) (by k_asm) [(a9, W.listOf ws9.toArray 0), (L' + 1 + 1 + 1, oc), (L' + 1 + 1, oS), (L' + 1, osr), (src, o9)] (fun _ hp => hp) (by simp only [LCg.Off3, and_true]; exact off6) ⟨o9, cs ++ [y9], rfl, hs9, StrsAre.append' hcs (.cons _ _ .nil), by simp only [List.mem_append, List.mem_singleton]; rintro w (hw | rfl); exact hck w hw; exact hss _ hy9, by rw [List.length_append, hcl]; rfl⟩
    --#endskip
  · clear N3
    rintro h3 tk3 m' nx ⟨rfl, ch, cvs, cs, ep, oC, o10, dC, hs10, hcs, hck, hcl, lc, rfl⟩ F3 N3
    have hHI : HandIf := ⟨trivial⟩
    k_steps
    unfold Stopped
    clear hHI
    clear F2
    have hcvl : cvs.length = cs.length := strs_len hcs
    refine' cutX (fun m m' nx => m' = m ∧ ∃ (a : Nat) (cvs : List Value) (cs : List Str) (ep : Nat) (oC o' : Obj), oC.data = Data.cell (some (.ref a)) ∧ Src o' ∧ StrsAre cvs cs ∧ (∀ w ∈ cs, w ∈ keysT) ∧ cs.length ≤ 3 ∧ (@Ne Nat (L' + 1 + 1 + 1) a ∧ @Ne Nat (L' + 1 + 1) a ∧ @Ne Nat (L' + 1) a ∧ @Ne Nat a9 a ∧ @Ne Nat src a) ∧
    nx = [(a, W.listOf cvs.toArray ep), (a9, W.listOf ws9.toArray 0), (L' + 1 + 1 + 1, oC), (L' + 1 + 1, oS), (L' + 1, osr), (src, o')]) F3 ?_ ?_
    · --#skip
      have hHA : HandAt (Str.ofString "choices") := ⟨trivial⟩
      k_steps
      · unfold Stopped
        clear hHA
        refine wpAny_Assign_Name ?_
        refine LCt.ListComp_T (F₀ := by k_asm) (by with_unfolding_all rfl) (by decide) (by rfl) (by decide) (by rfl) ?_
        have hHS : HandSrc := ⟨trivial⟩
        k_steps
        unfold Stopped
        clear hHS
        refine' LCt.CompSrcT.range (n := cs.length) rfl (by assumption) (by assumption) (by assumption) (small_one (by omega) (by omega) (by omega) (by omega)) (by rw [rangeSize_nat]; omega) (by rw [PySem.sizeLine_eq]; omega)
          (fun gg => restT_gen (fun i ys => ∃ cs' : List Str, StrsAre ys cs' ∧ (∀ w ∈ cs', w ∈ keysT) ∧ cs'.length ≤ i) trivial cs.length ?finb ?stepb _ 0 [] (Nat.zero_add _) ⟨[], .nil, fun _ h => (nomatch h), Nat.le_refl _⟩)
        case finb =>
          rintro ys ⟨cs', hcs', hck', hcl'⟩ D h6 tk6 F6 N6 off6
          simp only [LCg.Off1, and_true] at off6
          dsimp only
          k_steps
          dsimp only
          rename_i hD oD FD ND dD
          exact CutM.intro [(D, W.listOf ys.toArray ys.length), (a9, W.listOf ws9.toArray 0), (L' + 1 + 1 + 1, oD), (L' + 1 + 1, oS), (L' + 1, osr), (src, o9)] FD ND (by kstt_sub) ⟨rfl, D, ys, cs', _, oD, o9, dD, hs9, hcs', hck', by omega, ⟨off6.2.2.1, off6.2.2.2.1, off6.2.2.2.2.1, off6.2.1, off6.2.2.2.2.2⟩, rfl⟩
        case stepb =>
          rintro i v ys I oI C oC' D m₂ h tk E' hi ⟨tv, rfl⟩ ⟨cs', hcs', hck', hcl'⟩ hoC hxx F6 N6 off6 hne
          simp only [LCg.Off3, and_true] at off6
          have hi2 : ((0 : Int) + (i : Int)) = (i : Int) := by omega
          rw [hi2] at hxx
          have hi3 : (i : Int) < (cs.length : Int) := by omega
          k_steps
          · exact LeafEnd.intro (by k_asm) (by k_asm) (fun _ hp => List.mem_cons_of_mem _ hp) ⟨cs', hcs', hck', by omega⟩
          · exact LeafEnd.intro (by k_asm) (by k_asm) (fun _ hp => List.mem_cons_of_mem _ hp) ⟨cs' ++ [z9], StrsAre.append' hcs' (.cons _ _ .nil), by simp only [List.mem_append, List.mem_singleton]; rintro w (hw | rfl); exact hck' w hw; exact hck _ hzm9, by simp only [List.length_append, List.length_cons, List.length_nil]; omega⟩
      · dsimp only
        exact CutM.intro _ (by k_asm) (by k_asm) (fun _ hp => hp) ⟨rfl, ch, cvs, cs, ep, oC, _, dC, by assumption, hcs, hck, hcl, lc, rfl⟩
      --#endskip
    · rintro h4 tk4 m' nx ⟨rfl, ch2, cvs2, cs2, ep2, oC2, o11, dC2, hs11, hcs2, hck2, hcl2, lc2, rfl⟩ F4 N4
      clear F3 N3 hcs hck hcl lc dC hs10 hcvl
      have hcvl2 : cvs2.length = cs2.length := strs_len hcs2
      have hHA : HandAt (Str.ofString "value") := ⟨trivial⟩
      k_steps
      unfold Stopped
      clear hHA
      refine' cutX (fun m m' nx => ∃ (ov : Option Str) (vv : Value) (o' : Obj), m' = (fun y => if y = Str.ofString "value" then some vv else m y) ∧ IsOpt ov vv ∧ hasV mode = ov.isSome ∧ (∀ v, ov = some v → ValOk v) ∧ Src o' ∧
        nx = [(ch2, W.listOf cvs2.toArray ep2), (a9, W.listOf ws9.toArray 0), (L' + 1 + 1 + 1, oC2), (L' + 1 + 1, oS), (L' + 1, osr), (src, o')]) F4 ?_ ?_
      · --#skip
        k_steps
        · have hmt : hasV mode = true := by assumption
          rename_i hq FV NV
          refine CutM.intro [(ch2, W.listOf cvs2.toArray ep2), (_, W.listOf _ 0), (L' + 1 + 1 + 1, oC2), (L' + 1 + 1, oS), (L' + 1, osr), (src, o9)] FV NV ?_ ⟨some y9, .str y9 t9, o9, rfl, IsOpt.some _ _, hmt, ?_, hs9, rfl⟩
          · kstt_sub
          · intro v hv; cases hv; exact hy9
        · have hmt : hasV mode = false := by assumption
          rename_i hq FV NV
          exact CutM.intro _ FV NV (fun _ hp => List.mem_cons_of_mem _ hp) ⟨none, .none, o11, rfl, IsOpt.none, hmt, fun v hv => (nomatch hv), hs11, rfl⟩
        --#endskip
      · rintro h5 tk5 m' nx ⟨ov, vv, o12, rfl, hov, hm, hvok, hs12, rfl⟩ F5 N5
        clear F4 N4 hs11
        have hca2 : ∀ x ∈ cs2, Asc x := keys_asc hck2
        have hlt2 : Light cs2 := light_keys hck2 (by omega)
        have hc32 : cvs2.length ≤ 3000 := by omega
        have hvt : ∀ v, ov = some v → v.length ≤ 1000 ∧ (told kind v).length ≤ 1000 ∧ Asc (told kind v) := fun v h => val_told (hvok v h)
        have hvk : ∀ v, ov = some v → ∀ w ∈ splitL v, w ∈ keysT := fun v h => (hvok v h).2.2
        dsimp only
        have hHI : HandIf := ⟨trivial⟩
        k_steps
        unfold Stopped
        clear hHI
        refine' cutE True [(rx, instObj 126 rdx), (rdx, ruleD e.w.params ru1 ru2 ru3 ru4 kind qk rt mode qm vv), (rt, tupO cvs2), (ch2, W.listOf cvs2.toArray ep2), (a9, W.listOf ws9.toArray 0), (L' + 1 + 1 + 1, oC2), (L' + 1 + 1, oS), (L' + 1, osr), (src, o12)] ?Fe ?_ ?_
        case Fe => k_asm
        · --#skip
          k_steps
          refine ne_opt ?_ (by assumption) ?_
          · rw [← due_agree hck2 hvk]; assumption
          k_steps
          exact CutEnd.intro (by k_asm) (by k_asm) (by kstt_sub) trivial
          --#endskip
        intro h6 tk6 _ F6 N6
        dsimp only
        have hHI : HandIf := ⟨trivial⟩
        k_steps
        unfold Stopped
        clear hHI
        refine' cutE True [(rx, instObj 126 rdx), (rdx, ruleD e.w.params ru1 ru2 ru3 ru4 kind qk rt mode qm vv), (rt, tupO cvs2), (ch2, W.listOf cvs2.toArray ep2), (a9, W.listOf ws9.toArray 0), (L' + 1 + 1 + 1, oC2), (L' + 1 + 1, oS), (L' + 1, osr), (src, o12)] F6 ?_ ?_
        · --#skip
          have hva3 : ∀ v, ov = some v → Asc v := fun v h => (hvok v h).2.1
          cases hov with
          | none =>
            have hm1 : hasV mode = false := hm
            k_steps
            · rename_i hb; rw [hm1] at hb; exact absurd hb (by decide)
            · exact CutEnd.intro (by k_asm) (by k_asm) (by kstt_sub) trivial
          | some v tv =>
            have hm1 : hasV mode = true := hm
            k_steps
            · rename_i hb; rw [hm1] at hb; exact absurd hb (by decide)
            · exact CutEnd.intro (by k_asm) (by k_asm) (by kstt_sub) trivial
          --#endskip
        intro h7 tk7 _ F7 N7
        dsimp only
        clear F6 N6
        have hHA : HandAt (Str.ofString "heard") := ⟨trivial⟩
        k_steps
        unfold Stopped
        clear hHA
        obtain ⟨hw1, hw2, hw3⟩ := val_told (kind := kind) hy9
        have hw4 : Asc y9 := hy9.2.1
        have hw5 := hy9.2.2
        have hw6 : told kind (told kind y9) = told kind y9 := told_told kind y9
        have hHI : HandIf := ⟨trivial⟩
        k_steps
        unfold Stopped
        clear hHI
        refine' cutE True [(rx, instObj 126 rdx), (rdx, ruleD e.w.params ru1 ru2 ru3 ru4 kind qk rt mode qm vv), (rt, tupO cvs2), (ch2, W.listOf cvs2.toArray ep2), (L' + 1 + 1 + 1, oC2), (src, o9)] ?Fg ?_ ?_
        case Fg => k_asm
        · --#skip
          k_steps
          · rename_i hb; exact (bne_dead hb).elim
          · rename_i hb; rw [hw6] at hb; exact (bne_dead hb).elim
          · exact CutEnd.intro (by k_asm) (by k_asm) (by kstt_sub) trivial
          --#endskip
        intro h8 tk8 _ F8 N8
        dsimp only
        have hHI : HandIf := ⟨trivial⟩
        k_steps
        unfold Stopped
        clear hHI
        refine' cutE True [(rx, instObj 126 rdx), (rdx, ruleD e.w.params ru1 ru2 ru3 ru4 kind qk rt mode qm vv), (rt, tupO cvs2), (ch2, W.listOf cvs2.toArray ep2), (L' + 1 + 1 + 1, oC2), (src, o9)] ?Fh ?_ ?_
        case Fh => k_asm
        · --#skip
          k_steps
          · exact CutEnd.intro (by k_asm) (by k_asm) (by kstt_sub) trivial
          · rename_i hb
            refine (hb ?_).elim
            unfold wordsOf; rw [if_pos (by assumption)]
          · exact CutEnd.intro (by k_asm) (by k_asm) (by kstt_sub) trivial
          · rename_i hb
            exact (hb (wordsOf_one (by assumption))).elim
          --#endskip
        intro h10 tk10 _ F10 N10
        dsimp only
        cases hov with
        | none =>
          k_steps
          all_goals
            refine eq_fit hw5 ?_ (by assumption) (by assumption) ?_
            · split <;> first | rfl | simp_all
            ((try dsimp only); refine' Back.intro [(src, o9)] ?Fq48 ?Nq48 ?_; (case Fq48 => k_asm); (case Nq48 => (refine' KStt.news_of ?Xq48 ?Yq48; (case Xq48 => k_asm); (case Yq48 => kstt_sub))))
            exact ⟨o9, rfl, hs9, rfl⟩
        | some v tv =>
          have hfl : v.length ≤ 1000 := (hvt v rfl).1
          k_steps
          all_goals
            refine eq_fit hw5 ?_ (by assumption) (by assumption) ?_
            · split <;> first | rfl | simp_all
            ((try dsimp only); refine' Back.intro [(src, o9)] ?Fq49 ?Nq49 ?_; (case Fq49 => k_asm); (case Nq49 => (refine' KStt.news_of ?Xq49 ?Yq49; (case Xq49 => k_asm); (case Yq49 => kstt_sub))))
            exact ⟨o9, rfl, hs9, rfl⟩
theorem words24_52 : True := by
  k_with "call ref" => (k_here; (with_reducible show wpAny _ _ (call (Value.ref 235) _) _ _ _); k_dflt (refine' use1 (right_does _ _ _ ?hs) ?U ?B ?F ?X ?T ?N ?hA ?hh ?hg ?hf ?hke ?hD ?hU ?hn ?_; (case B => k_asm); (case F => k_asm); (case X => k_asm); (case T => k_asm); (case N => k_asm); (case hA => exact rfl); (case hh => exact rfl); (case hg => exact rfl); (case hf => exact rfl); (case hke => exact rfl); (case hD => exact Nat.le_of_ble_eq_true rfl); (case hU => exact Nat.le_of_ble_eq_true rfl); (case U => k_updF); (case hs => k_asm); (case hn => k_extra "MINE nil"); k_whole); intro v9 h9 tk9 o9 F9 N9 p9; obtain ⟨hs9, e9⟩ := p9; subst e9; (try dsimp only at N9); (try k_sweep))
  trivial


section
variable {prog : Program} {w : World} {A : Around} {h₀ : Heap} {L : Addr} {m : Str → Option Value} {env : Env} {ct elt : PySem.Expr} {x : Str} {scope : Scope} {cl : List (Str × Addr)} {s : Shared} {news : Led} {ax : Addr} {vs : List Value} {ss : List Str}
/-- as src_filt, the source a list of the base -/
theorem src_filtB {Fin : Shared → List Value → Led → Prop} (p : Str → Bool) (hh : A.handled = none) (F : Fr h₀ L s.heap m) (N : News h₀ L s.heap news) (hl : h₀.IsList ax vs.toArray) (hs : StrsAre vs ss) (hlen : vs.length ≤ 3000)
    (fin : ∀ (g : Heap) (ys : List Value), StrsAre ys (ss.filter p) → Fin { s with heap := g } ys news)
    (step : ∀ (g : Heap) i y ty ys I oI C oC D m₂ h tk (E' : Value → Shared → Prop), ss[i]? = some y → y ∈ ss → FiltJ p ss i ys → LCg.NsObj oC m₂ → m₂ x = some (.str y ty) → Fr h₀ L h m → News h₀ L h ((I, oI) :: (C, oC) :: (D, LCg.lst ys) :: news) →
      LCg.Off3 I C D news → ((@Ne Nat I C) ∧ (@Ne Nat I D) ∧ (@Ne Nat C D)) →
      wpAny (model prog w) A (isTrue ct (compEnvC scope cl C env) (eval ct (compEnvC scope cl C env))) (fun ok s' => if ok = true then
        wpAny (model prog w) A (eval elt (compEnvC scope cl C env)) (LeafEnd h₀ L m { s with heap := h, toks := tk } ((I, oI) :: (C, oC) :: (D, LCg.lst ys) :: news) (fun z => FiltJ p ss (i + 1) (ys ++ [z]))) E' s'
        else LeafEnd h₀ L m { s with heap := h, toks := tk } ((I, oI) :: (C, oC) :: (D, LCg.lst ys) :: news) (fun _ => FiltJ p ss (i + 1) ys) Value.none s') E' { s with heap := h, toks := tk }) :
    LCt.CompSrcT prog w A h₀ L m env ct elt x scope cl Fin (.ref ax) s := by
  have hl2 := strs_len hs
  refine LCt.CompSrcT.base hh F N hl (by rw [PySem.sizeLine_eq, List.size_toArray]; omega)
    (fun gg => restT_gen (FiltJ p ss) (.inl hl) ss.length (fun ys hJ => fin gg ys hJ.whole) ?_ _ 0 [] (by rw [Nat.zero_add, List.size_toArray, hl2]) .nil)
  intro i v ys I oI C oC D m₂ h3 tk3 E' hi hP hJ hoC hxx F3 N3 off hne
  obtain ⟨y, ty, hy, rfl⟩ := strs_get hs (by simpa using hP)
  exact step gg i y ty ys I oI C oC D m₂ h3 tk3 E' hy (List.mem_of_getElem? hy) hJ hoC hxx F3 N3 off hne
end
theorem listKB {K : Frag} {g : Heap} {b : Addr} {items : List Value} {n : Nat} {od : Option Addr} {osl : Array (Option Value)}
    (X : K.In g) (e : K.lookup b = some ⟨.type "list", od, .seq items.toArray n, osl⟩) : g.IsList b items.toArray := ⟨_, X b _ e, rfl, _, rfl⟩
abbrev asked7 : List Str := [Str.ofString "ID", Str.ofString "IDREF", Str.ofString "IDREFS", Str.ofString "ENTITY", Str.ofString "ENTITIES", Str.ofString "NMTOKEN", Str.ofString "NMTOKENS"]
abbrev kinds10 : List Str := [Str.ofString "CDATA", Str.ofString "ID", Str.ofString "IDREF", Str.ofString "IDREFS", Str.ofString "ENTITY", Str.ofString "ENTITIES", Str.ofString "NMTOKEN", Str.ofString "NMTOKENS", Str.ofString "enumeration", Str.ofString "notation"]
abbrev outK (y : Str) : Bool := !inL [Str.ofString "CDATA", Str.ofString "enumeration", Str.ofString "notation"] y
theorem asked_is : kinds10.filter outK = asked7 := by decide
theorem outK_no {y : Str} (h : inL [Str.ofString "CDATA", Str.ofString "enumeration", Str.ofString "notation"] y = true) : outK y = false := by unfold outK; rw [h]; rfl
theorem outK_yes {y : Str} (h : inL [Str.ofString "CDATA", Str.ofString "enumeration", Str.ofString "notation"] y = false) : outK y = true := by unfold outK; rw [h]; rfl
section
variable {prog : Program} {w : World} {A : Around} {E : Value → Shared → Prop} {s : Shared} {h₀ : Heap} {L : Addr} {m : Str → Option Value} {env : Env}
/-- the source of a comprehension of two clauses: a dict of the ledger -/
def NestSrc (prog : Program) (w : World) (A : Around) (h₀ : Heap) (L : Addr) (m : Str → Option Value) (env : Env) (i2 ct : PySem.Expr) (x y : Str) (scope : Scope) (cl : List (Str × Addr)) (Q : Value → Shared → Prop) (xv : Value) (s₁ : Shared) : Prop :=
  ∃ (d : Addr) (o : Obj) (kvs : List (Str × Value)) (ax : Addr) (its : Array Value) (k : Nat) (news : Led), xv = .ref d ∧ A.handled = none ∧ Fr h₀ L s₁.heap m ∧ News h₀ L s₁.heap news ∧ (d, o) ∈ news ∧ o.IsDictOf (PySem.strKind prog w) kvs ∧ (d == sysModules) = false ∧ (ax, W.listOf its k) ∈ news ∧
    ∀ g : Heap, (∀ (i : Nat) (v : Value) I oI C oC D m₂ h tk (E' : Value → Shared → Prop), (∃ key xx, kvs[i]? = some (key, xx) ∧ (PySem.strKind prog w).is key v = true) → LCg.NsObj oC m₂ → m₂ x = some v → Fr h₀ L h m → News h₀ L h ((I, oI) :: (C, oC) :: (D, LCg.lst []) :: news) →
      wpAny (model prog w) A (eval i2 (compEnvC scope cl C env)) (fun xv s' => xv = .ref ax ∧ LeafEnd h₀ L m { { s₁ with heap := g } with heap := h, toks := tk } ((I, oI) :: (C, oC) :: (D, LCg.lst []) :: news) (fun _ => True) Value.none s') E' { { s₁ with heap := g } with heap := h, toks := tk }) ∧
    (∀ (i : Nat) (v : Value) (j : Nat) (u : Value) J oJ I oI C oC D m₂ h tk (E' : Value → Shared → Prop), (∃ key xx, kvs[i]? = some (key, xx) ∧ (PySem.strKind prog w).is key v = true) → its[j]? = some u → LCg.NsObj oC m₂ → m₂ x = some v → m₂ y = some u → Fr h₀ L h m → News h₀ L h ((J, oJ) :: (I, oI) :: (C, oC) :: (D, LCg.lst []) :: news) →
      wpAny (model prog w) A (isTrue ct (compEnvC scope cl C env) (eval ct (compEnvC scope cl C env))) (fun ok s' => ok = false ∧ LeafEnd h₀ L m { { s₁ with heap := g } with heap := h, toks := tk } ((J, oJ) :: (I, oI) :: (C, oC) :: (D, LCg.lst []) :: news) (fun _ => True) Value.none s') E' { { s₁ with heap := g } with heap := h, toks := tk }) ∧
    LCg.FinE h₀ L m { s₁ with heap := g } Q [] news
theorem ListComp_N {elt i1 i2 ct : PySem.Expr} {x y : Str} {px py : Pos} {scope : Scope} {cl : List (Str × Addr)} {pos : Pos} {Q : Value → Shared → Prop} (_F₀ : Fr h₀ L s.heap m)
    (hclos : closureFor scope env = pure cl) (hcell : ∀ y ∈ scope.names, y.2 ≠ .cell) (hkind : scope.kind = .function)
    (hnames : ∀ y ∈ scope.names, y.2 = .local → scope.names.lookup y.1 = some .local) (hx : scope.names.lookup x = some .local) (hy : scope.names.lookup y = some .local) (hxy : x ≠ y)
    (h : wpAny (model prog w) A (eval i1 env) (NestSrc prog w A h₀ L m env i2 ct x y scope cl Q) E s)
    (hs : ∀ x, foldedSetIterable i1 env x = pure x := by intro _; rfl) (hfs : ∀ env x, foldedSetIterable i2 env x = pure x := by intro _ _; rfl) :
    wpAny (model prog w) A (eval (.ListComp elt [⟨.Name x px, i1, [], 0⟩, ⟨.Name y py, i2, [ct], 0⟩] scope pos) env) Q E s := by
  rw [eval_ListComp]
  refine wpAny_comprehension_free (use := none) rfl hs hclos hkind hnames (wpAny_mono h (fun xv s₁ h₁ => ?_) fun _ _ e => e)
  obtain ⟨d, o, kvs, ax, its, k, news, rfl, hh, F, N, hd, hdo, lo, ha, R⟩ := h₁
  obtain ⟨ep, hD⟩ := (Heap.dictOf_iff.mpr ⟨o, (N _ hd).1, hdo⟩ : s₁.heap.DictOf (PySem.strKind prog w) d kvs).dictAt
  have hlt : d < s₁.heap.objs.size := hD.lt_size
  refine wpAny_pyIter_dict lo hD ?_
  have up : ∀ b o', s₁.heap.get? b = some o' → (s₁.heap.push { cls := .type "dict_keyiterator", data := .fields #[.ref d, .int 0 0, .int kvs.length 0, .int ep 0] }).get? b = some o' := fun b o' e => Heap.get?_push_of_some _ e
  obtain ⟨r2, r3, rf⟩ := R (s₁.heap.push { cls := .type "dict_keyiterator", data := .fields #[.ref d, .int 0 0, .int kvs.length 0, .int ep 0] })
  refine nest_block hh (Walks.dictKeys (prog := prog) (w := w) (knd := PySem.strKind prog w) hh s₁.heap.objs.size d (Nat.ne_of_lt hlt) kvs ep) (fun i h st => by obtain ⟨o', e, _⟩ := st.1; exact ⟨o', e⟩) ?_ hcell hkind hx hy hxy
    ⟨⟨_, Heap.get?_push_size _ rfl, rfl, rfl⟩, hD.push _⟩ ?_ (F.keeps up) (N.grown up) (Nat.ne_of_lt F.ns.lt) (next_is_new F) (fun p hp => Nat.ne_of_lt (Heap.lt_size (N p hp).1)) ha r2 r3 ?_ hfs
  · intro i h' h'' o' st e e' N''
    refine ⟨?_, ?_⟩
    · obtain ⟨o2, q, r⟩ := st.1; rw [e] at q; cases q; exact ⟨o', e', r⟩
    · obtain ⟨o2, es, q, r⟩ := hD
      have : o2 = o := Option.some.inj (q.symm.trans (N _ hd).1)
      exact ⟨o2, es, this ▸ (N'' _ hd).1, r⟩
  · intro b hb
    show b < (s₁.heap.push _).objs.size
    rw [Heap.size_push]
    rcases List.mem_cons.mp hb with rfl | hb
    · exact Nat.lt_succ_self _
    · rw [List.mem_singleton.mp hb]; exact Nat.lt_succ_of_lt hlt
  · intro D C h tk m' F' N' o1 hn hC₀ hD₀ hCL hDL hCD offC
    refine ⟨m', hn, fun h'' hs'' => rf D h'' tk (F'.change hs'' hCL hC₀) (fun p hp => ?_) o1⟩
    refine ⟨hs''.extBut _ _ ?_ (N' p hp).1, (N' p hp).2⟩
    rcases List.mem_cons.mp hp with rfl | hp
    · exact Ne.symm hCD
    · exact offC p hp
end
/-- a mark: the next list comprehension is taken by hand -/
structure HandLC : Prop where
  mark :: (one : True)
theorem words25_53 : True := by
  k_with "eval ListComp" => ((with_reducible rename HandLC => hHL); refine unstop ?_)
  trivial

theorem init_back2 {pp : Params} {g h : Heap} {L : Addr} {m : Str → Option Value} {s0 : Shared} {tk9 : Nat} {x dx t : Nat} {kind mode : Str} {tk tm : Tok} {vv : Value} {cvs : List Value} {u1 u2 u3 u4 : Tok} (F : Fr g L h m)
    (N : News g L h [(x, instObj 126 dx), (dx, ruleD pp u1 u2 u3 u4 kind tk t mode tm vv), (t, tupO cvs)]) :
    Back g L (fun v n' => v = .none ∧ ∃ (u1 u2 u3 u4 : Tok), n' = [(x, instObj 126 dx), (dx, ruleD pp u1 u2 u3 u4 kind tk t mode tm vv), (t, tupO cvs)]) s0 .none { s0 with heap := h, toks := tk9 } :=
  Back.intro [(x, instObj 126 dx), (dx, ruleD pp u1 u2 u3 u4 kind tk t mode tm vv), (t, tupO cvs)] F N ⟨rfl, u1, u2, u3, u4, rfl⟩
theorem init2_does (e : Wd) (x dx t : Nat) (kind mode : Str) (tk tm : Tok) (vv : Value) (cvs : List Value) (h1 : dx < x) (h2 : t < dx) :
    Does e 109 390 450 [.ref x, .str kind tk, .ref t, .str mode tm, vv] [(x, instObj 126 dx), (dx, dictOf [] 0), (t, tupO cvs)]
      (fun v n' => v = .none ∧ ∃ (u1 u2 u3 u4 : Tok), n' = [(x, instObj 126 dx), (dx, ruleD e.w.params u1 u2 u3 u4 kind tk t mode tm vv), (t, tupO cvs)]) := by
  k_dflt (refine' enter (binds := [(Str.ofString "self", .ref x), (Str.ofString "kind", .str kind tk), (Str.ofString "choices", .ref t), (Str.ofString "mode", .str mode tm), (Str.ofString "value", vv)]) ?k6 ?k7 ?k8 ?k9 ?kB ?_ ?c5 ?c2 ?c3 ?c4; (case k6 => k_is); (case k7 => k_is); (case k8 => decide); (case k9 => intro s; exact BindsTo.of_eq rfl); (case kB => exact locs rfl); (case c5 => decide); (case c2 => exact rfl); (case c3 => exact rfl); (case c4 => exact rfl); k_whole; intro base g envs s0 L' h' tk' B' X' T' F' N' l1; (try k_lt l1); (try dsimp only [List.reverse, List.reverseAux] at F'); (try dsimp only); (try k_fold))
  k_steps
  exact init_back2 (by k_asm) (by k_asm)
section
variable {e : Wd} {A A₀ : Around} {base h₀ : Heap} {outer : List Env} {L : Addr} {m : Str → Option Value} {env : Env} {s : Shared} {Q E : Value → Shared → Prop} {news : Led}
theorem make_rule2 {kind mode : Str} {tk tm : Tok} {vv : Value} {ch : Nat} {cvs : List Value} (B : Below A₀ base outer h₀) (F : Fr h₀ L s.heap m) (X : (hd.heap_39 e.w.params).In h₀)
    (T : Top hd.view_39 (looseW hd.view_39 [Str.ofString "_law_kinds"]) e.mean e.mg e.mb h₀) (N : News h₀ L s.heap news)
    (hA : A.frames = some (env :: outer)) (hh : A.handled = none) (hg : A.guards = some []) (hf : env.frame = some L) (hke : env.scope.kind = .function)
    (hD : A.depth ≤ 380) (hU : A.units ≤ 440) (hch : (ch, tupO cvs) ∈ news)
    (k : ∀ (x dx : Nat) (u1 u2 u3 u4 : Tok) h' tk', Fr h₀ L h' m → News h₀ L h' ((x, instObj 126 dx) :: (dx, ruleD e.w.params u1 u2 u3 u4 kind tk ch mode tm vv) :: news) → (∀ p ∈ news, p.1 < dx) → dx < x → Q (.ref x) { s with heap := h', toks := tk' }) :
    wpAny (model PySem.Challenge.rw_on0182_01.row.prog e.w) A (call (.ref 126) [.str kind tk, .ref ch, .str mode tm, vv]) Q E s := by
  refine call_cls F X N (by k_is) (by k_is) (by k_is) fun x dx h1 F1 N1 l1 l2 => ?_
  have hcx : ch < dx := l1 _ hch
  have hne : ∀ p ∈ news, ∀ q : Addr × Obj, q ∈ [(x, instObj 126 dx), (dx, dictOf [] 0)] → p.1 ≠ q.1 := fun p hp q hq e => by
    have := l1 p hp
    rcases List.mem_cons.mp hq with rfl | hq
    · have h3 : p.1 = x := e
      have h4 : (p.1 : Nat) < dx := this
      have h5 : (dx : Nat) < x := l2
      rw [h3] at h4; exact absurd (Nat.lt_trans h4 h5) (Nat.lt_irrefl _)
    · rw [List.mem_singleton.mp hq] at e
      have h3 : p.1 = dx := e
      rw [h3] at this; exact absurd this (Nat.lt_irrefl _)
  refine useC (init2_does e x dx ch kind mode tk tm vv cvs l2 hcx) (news.filter fun p => !(p.1 == ch)) B F1 X T N1 hA hh hg hf hke ?_ ?_ ?_ ?_ ?_ ?_
  · exact Nat.le_trans (Nat.add_le_add_right hD _) (Nat.le_of_ble_eq_true rfl)
  · exact Nat.le_trans (Nat.add_le_add_right hU _) (Nat.le_of_ble_eq_true rfl)
  · intro p hp
    rcases List.mem_cons.mp hp with rfl | hp
    · exact .head _
    · rcases List.mem_cons.mp hp with rfl | hp
      · exact .tail _ (.head _)
      · rw [List.mem_singleton.mp hp]; exact .tail _ (.tail _ hch)
  · exact fun p hp => .tail _ (.tail _ (List.mem_filter.mp hp).1)
  · intro p hp q hq
    have hp' := List.mem_filter.mp hp
    rcases List.mem_cons.mp hq with rfl | hq
    · exact hne p hp'.1 _ (.head _)
    · rcases List.mem_cons.mp hq with rfl | hq
      · exact hne p hp'.1 _ (.tail _ (.head _))
      · rw [List.mem_singleton.mp hq]
        have := hp'.2
        simpa using this
  · rintro v h' tk' n' F' N' ap ⟨rfl, u1, u2, u3, u4, rfl⟩
    refine ⟨rfl, ?_⟩
    refine k x dx u1 u2 u3 u4 h' tk' F' (fun p hp => ?_) l1 l2
    rcases List.mem_cons.mp hp with rfl | hp
    · exact N' _ (.head _)
    · rcases List.mem_cons.mp hp with rfl | hp
      · exact N' _ (.tail _ (.head _))
      · by_cases hc : p.1 = ch
        · have h1 := (N p hp).1
          have h2 := (N _ hch).1
          rw [hc] at h1
          have : p = (ch, tupO cvs) := Prod.ext hc (Option.some.inj (h1.symm.trans h2))
          exact this ▸ N' _ (.tail _ (.tail _ (.head _)))
        · exact N' _ (List.mem_append_right _ (List.mem_filter.mpr ⟨hp, by simpa using hc⟩))
end
theorem words25_54 : True := by
  k_with "call ref" => (k_here; (with_reducible show wpAny _ _ (call (Value.ref 126) _) _ _ _); k_dflt (refine' make_rule2 ?B ?F ?X ?T ?N ?hA ?hh ?hg ?hf ?hke ?hD ?hU ?hch ?_; (case B => k_asm); (case F => k_asm); (case X => k_asm); (case T => k_asm); (case N => k_asm); (case hA => exact rfl); (case hh => exact rfl); (case hg => exact rfl); (case hf => exact rfl); (case hke => exact rfl); (case hD => exact Nat.le_of_ble_eq_true rfl); (case hU => exact Nat.le_of_ble_eq_true rfl); (case hch => k_mem); k_whole); intro rx rdx ru1 ru2 ru3 ru4 hR tkR FR NR lR1 lRx; (try k_lt lR1); (try k_sweep))
  trivial

section
variable {e : Wd} {f : Addr} {D U : Nat} {vs : List Value} {n : Led} {P : Value → Led → Prop} {name qual : Str} {params : Arguments} {body : List Stmt} {scope : Scope} {dV kV doc pm cdv ct oc : Value} {an od : Option Addr} {osl : Array (Option Value)} {binds : List (Str × Value)}
theorem enterGC {G : Heap → Prop}
    (ho : (hd.heap_39 e.w.params).lookup f = some ⟨oc, od, .func (fnOf name qual params body scope dV kV doc pm an cdv ct), osl⟩) (hcd : codeIn (hd.heap_39 e.w.params) cdv qual = true) (hroom : D < recursionLimit)
    (hbind : ∀ s, BindsTo s (fnOf name qual params body scope dV kV doc pm an cdv ct) ⟨vs, []⟩ binds)
    (hkind : (binds.all fun y => scope.names.lookup y.1 == some .local || scope.names.lookup y.1 == some .cell) = true) (hnd : ((cellsFrom 0 scope.names []).map (·.1)).Nodup)
    (h : ∀ base g envs (s : Shared) L h₁ tk₁ cells, G g → Below (ctxA D U envs) base envs g → (hd.heap_39 e.w.params).In g → Top hd.view_39 (looseW hd.view_39 [Str.ofString "_law_kinds"]) e.mean e.mg e.mb g →
      Fr g L h₁ (bindL (envOfC qual scope L f cdv).kindOf binds fun _ => none) → News g L h₁ (cells ++ n) →
      CellsAre (bindC (envOfC qual scope L f cdv).kindOf binds fun _ => none) (cellsFrom (L + 1) scope.names []) cells → (∀ p ∈ n, p.1 < L) →
      wpAny (model PySem.Challenge.rw_on0182_01.row.prog e.w) ((ctxA D U envs).deeper (envOfC qual scope L f cdv)) (execs body (envOfC qual scope L f cdv))
        (fun fl s' => Back g L P s (match fl with | .ret v => v | _ => .none) s') (fun _ _ => False) { s with heap := h₁, toks := tk₁ })
    (hco : scope.isCoroutine = false) (hgen : scope.isGenerator = false) (hk : scope.kind = .function)   : DoesG G e f D U vs n P := by
  intro base g envs s R hG B X T st hsz hn k
  have X' : (hd.heap_39 e.w.params).In s.heap := X.keeps st
  refine codeAny_call_function hroom (X' _ _ ho) rfl hco hgen rfl (codeRec_of X' hcd) (hbind s _ _ _ _ ?_)
  refine wpAny_newFunctionEnv_cells hk (kindsX hkind _) fun env' he s' x => ?_
  subst he
  refine ⟨(T.nolimit.keeps st).keeps x.toInCall.keep, codeAny_func ?_⟩
  obtain ⟨h₁, tk, rfl, _⟩ := x.done
  have hk₁ := x.toInCall.keep
  obtain ⟨cells, NC, Y⟩ := Cl.news (h₀ := s.heap) (Nat.le_refl _) fun n c hm => ⟨x.cell n c (lookup_of_mem_nodup (cellsFrom_names scope.names 0 (s.heap.objs.size + 1) [] [] rfl ▸ hnd) hm), x.above n c hm⟩
  refine wpAny_mono (h base g envs s s.heap.objs.size h₁ tk cells hG B X T ⟨x.toInCall.ns, fun b o q => hk₁ b o (st b o q), hsz⟩ (fun p hp => ?_) Y (fun p hp => Heap.lt_size (hn p hp).1)) ?_ (fun _ _ q => q.elim)
  · rcases List.mem_append.mp hp with hp | hp
    · refine ⟨(NC p hp).1, (NC p hp).2.1, ?_⟩
      cases q : g.get? p.1 with
      | none => rfl
      | some o => have := st _ _ q; rw [(NC p hp).2.2] at this; cases this
    · exact ⟨hk₁ _ _ (hn p hp).1, Nat.ne_of_lt (Heap.lt_size (hn p hp).1), (hn p hp).2⟩
  · rintro fl s' ⟨h', tk', m, n', rfl, F, N, p⟩
    exact k _ h' tk' n' F.keep (fun q hq => ⟨(N q hq).1, (N q hq).2.2⟩) p
end
theorem asked_not : ∀ y ∈ asked7, choiceK y = false := by decide
theorem strOf_str {k : Str} {v : Value} {prog : Program} {w : World} (h : (PySem.strKind prog w).is k v = true) : ∃ t, v = .str k t := by
  have h' : Value.isStrOf k v = true := h
  cases v <;> simp [Value.isStrOf] at h'
  subst h'; exact ⟨_, rfl⟩
abbrev two1 : List Str := [Str.ofString "1a", Str.ofString "b"]
theorem two1_asc : ∀ x ∈ two1, Asc x := by unfold Asc; decide
theorem two1_light : Light two1 := by unfold Light; decide
theorem due_a : dueC (pickC (Str.ofString "enumeration")) (wordC (Str.ofString "enumeration")) (Str.ofString "enumeration") two1 (Str.ofString "default" == Str.ofString "fixed") (some (Str.ofString " 1a")) = none := by decide +kernel
theorem due_b : dueC (pickC (Str.ofString "notation")) (wordC (Str.ofString "notation")) (Str.ofString "notation") two1 (Str.ofString "implied" == Str.ofString "fixed") none = some (Str.ofString "is no word: 1a") := by decide +kernel
theorem val_one : ValOk (Str.ofString " 1a") := by
  refine ⟨by decide, by unfold Asc; decide, by decide +kernel⟩
theorem hv_a : ∀ v, some (Str.ofString " 1a") = some v → v.length ≤ 1000 ∧ (told (Str.ofString "enumeration") v).length ≤ 1000 ∧ Asc (told (Str.ofString "enumeration") v) := fun v h => by cases h; exact val_told val_one
theorem hv_b : ∀ v, none = some v → v.length ≤ 1000 ∧ (told (Str.ofString "notation") v).length ≤ 1000 ∧ Asc (told (Str.ofString "notation") v) := fun v h => nomatch h
theorem hasv_a : hasV (Str.ofString "default") = (some (Str.ofString " 1a")).isSome := by decide
theorem hasv_b : hasV (Str.ofString "implied") = (none : Option Str).isSome := by decide
theorem words25_55 : True := by
  k_with "call ref" => (k_here; (with_reducible show wpAny _ _ (call (Value.ref 165) _) _ _ _); k_dflt (refine' use0 (fault_does (cs := two1) _ _ _ _ _ _ _ _ _ _ _ _ _ _ _ ?hw1 ?hw2 ?hw3 ?hw4 ?hw5 ?hw6 ?hw7 ?hw8 ?hw9 ?hw10) ?B ?F ?X ?T ?N ?hA ?hh ?hg ?hf ?hke ?hD ?hU ?hn ?_; (case B => k_asm); (case F => k_asm); (case X => k_asm); (case T => k_asm); (case N => k_asm); (case hA => exact rfl); (case hh => exact rfl); (case hg => exact rfl); (case hf => exact rfl); (case hke => exact rfl); (case hD => exact Nat.le_of_ble_eq_true rfl); (case hU => exact Nat.le_of_ble_eq_true rfl); (case hn => k_extra "MINE three"); (case hw1 => assumption); (case hw2 => exact ⟨Nat.ne_of_gt (Nat.lt_trans lR1.1 lRx), Nat.ne_of_gt lR1.1⟩); (case hw3 => k_extra "MINE opt"); (case hw4 => first | exact hasv_a | exact hasv_b); (case hw5 => exact .cons _ _ (.cons _ _ .nil)); (case hw6 => exact two1_asc); (case hw7 => exact two1_light); (case hw8 => exact Nat.le_of_ble_eq_true rfl); (case hw9 => exact Nat.le_of_ble_eq_true rfl); (case hw10 => first | exact hv_a | exact hv_b); k_whole); intro v9 h9 tk9 n9 F9 N9 ap9 p9; obtain ⟨hn9, p9⟩ := p9; subst hn9; clear ap9; (first | (rw [due_a] at p9; cases p9) | (rw [due_b] at p9; cases p9)); (try simp only [List.nil_append] at N9); (try k_sweep))
  trivial

theorem range_cases {prog : Program} {w : World} {A : Around} {E : Value → Shared → Prop} {s : Shared} {Q : Value → Shared → Prop} {a : Int} {t : Tok} (h : a = 1 ∨ a = 2) (h1 : wpAny (model prog w) A (call (.type "range") [.int 1 t]) Q E s) (h2 : wpAny (model prog w) A (call (.type "range") [.int 2 t]) Q E s) :
    wpAny (model prog w) A (call (.type "range") [.int a t]) Q E s := by
  rcases h with rfl | rfl
  · exact h1
  · exact h2
section
variable {e : Wd} {A A₀ : Around} {base h₀ : Heap} {outer : List Env} {L : Addr} {m : Str → Option Value} {env : Env} {s : Shared} {Q E : Value → Shared → Prop} {news : Led}
theorem use_pool {sc : Addr} {vs : List Value} {ns : List Int} {k : Int} {kt : Tok} (hG : h₀.IsList sc vs.toArray) (hI : IntsAre vs ns) (hl : ns.length ≤ 63) (hk : k = 0 ∨ k = 1) (B : Below A₀ base outer h₀) (F : Fr h₀ L s.heap m) (X : (hd.heap_39 e.w.params).In h₀)
    (T : Top hd.view_39 (looseW hd.view_39 [Str.ofString "_law_kinds"]) e.mean e.mg e.mb h₀) (N : News h₀ L s.heap news)
    (hA : A.frames = some (env :: outer)) (hh : A.handled = none) (hg : A.guards = some []) (hf : env.frame = some L) (hke : env.scope.kind = .function)
    (hD : A.depth ≤ 380) (hU : A.units ≤ 400)
    (kk : ∀ (a : Addr) (o : Obj) h' tk', Fr h₀ L h' m → News h₀ L h' ((a, o) :: news) → LCg.Off1 a news → Src o → Q (.ref a) { s with heap := h', toks := tk' }) :
    wpAny (model PySem.Challenge.rw_on0182_01.row.prog e.w) A (call (.ref 172) [.ref sc, .int k kt]) Q E s :=
  useG hG keep_list (pool_does e sc vs ns k kt hI hl hk) news B F X T N hA hh hg hf hke hD hU (fun _ hp => nomatch hp) (fun _ hp => hp) (fun _ _ _ hq => nomatch hq) fun v h' tk' n' F' N' ap p => by
    obtain ⟨a, o, rfl, rfl, hs⟩ := p
    have h1 : ∀ q ∈ news, q.1 ≠ a := fun q hq => ap (a, o) List.mem_cons_self q hq
    exact kk a o h' tk' F' N' (LCg.Off3.of fun q hq => ⟨h1 q hq, h1 q hq, h1 q hq⟩ : LCg.Off3 a a a news).one hs
end
theorem words25_56 : True := by
  k_with "call ref" => (k_here; (with_reducible show wpAny _ _ (call (Value.ref 172) _) _ _ _); k_dflt (refine' use_pool ?hG ?hw1 ?hw2 ?hw3 ?B ?F ?X ?T ?N ?hA ?hh ?hg ?hf ?hke ?hD ?hU ?_; (case hG => assumption); (case B => k_asm); (case F => k_asm); (case X => k_asm); (case T => k_asm); (case N => k_asm); (case hA => exact rfl); (case hh => exact rfl); (case hg => exact rfl); (case hf => exact rfl); (case hke => exact rfl); (case hD => exact Nat.le_of_ble_eq_true rfl); (case hU => exact Nat.le_of_ble_eq_true rfl); (case hw1 => assumption); (case hw2 => (first | assumption | omega)); (case hw3 => (first | exact .inl rfl | exact .inr rfl)); k_whole); intro a9 o9 h9 tk9 F9 N9 off9 hs9; (try simp only [LCg.Off1, and_true] at off9); (try k_sweep))
  trivial


theorem law_does (e : Wd) (sc : Nat) (vs : List Value) (ns : List Int) (hI : IntsAre vs ns) (hn : ns.length ≤ 63) :
    DoesG (fun g => g.IsList sc vs.toArray) e 240 301 4 [.ref sc] [] (fun v n' => v = .bool true) := by
  k_dflt (refine' enterGC (binds := [(Str.ofString "script", .ref sc)]) ?k6 ?k7 ?k8 ?k9 ?kB ?kD ?_ ?c2 ?c3 ?c4; (case k6 => k_is); (case k7 => k_is); (case k8 => decide); (case k9 => intro s; exact BindsTo.of_eq rfl); (case kB => exact rfl); (case kD => decide +kernel); (case c2 => exact rfl); (case c3 => exact rfl); (case c4 => exact rfl); k_whole; intro base g envs s0 L' h' tk' cells' G' B' X' T' F' N' Y' l1; (try k_lt l1); k_cells Y'; (try simp only [List.cons_append, List.nil_append] at N'); (try dsimp only); (try k_fold))
  have hll : g.IsList sc vs.toArray := G'
  rename_i oA dA
  refine wpAny_execs_cons ?_
  refine' cutX (fun m m' nx => ∃ (o : Obj) (c : Option Value), o.data = Data.cell c ∧ nx = [(L' + 1, o)]) F' ?_ ?_
  · --#skip
    have hHR : HandRange := ⟨trivial⟩
    k_steps
    unfold Stopped
    clear hHR
    refine range_cases ?_ ?_ ?_
    · split <;> (try split) <;> omega
    · k_steps
      exact CutM.intro [(L' + 1, oA)] (by k_asm) (by k_asm) (by kstt_sub) ⟨oA, _, dA, rfl⟩
    · k_steps
      exact CutM.intro [(L' + 1, oA)] (by k_asm) (by k_asm) (by kstt_sub) ⟨oA, _, dA, rfl⟩
    --#endskip
  · rintro h2 tk2 m' nx ⟨o, c, do2, rfl⟩ F2 N2
    clear F' N'
    dsimp only
    k_steps
    refine' src_filtB (ss := kinds10) outK rfl F2 N2 (listKB ?kbX ?kbe) ?kbs ?kblen ?kbfin ?kbstep
    case kbX => assumption
    case kbe => k_is
    case kbs => repeat constructor
    case kblen => exact Nat.le_of_ble_eq_true rfl
    case kbstep =>
      intro gg i y ty ys I oI C oC D m₂ h3 tk3 E' hy hyl hJ hoC hxx F3 N3 off hne
      k_steps
      · exact LeafEnd.intro (by k_asm) (by k_asm) (fun _ hp => List.mem_cons_of_mem _ hp) (hJ.no hy (outK_no (by assumption)))
      · exact LeafEnd.intro (by k_asm) (by k_asm) (fun _ hp => List.mem_cons_of_mem _ hp) (hJ.yes hy (outK_yes (by assumption)))
    case kbfin =>
      intro gg ys hys D h3 tk3 F3 N3 off3
      rw [asked_is] at hys
      dsimp only
      clear F2 N2
      have hHI : HandIf := ⟨trivial⟩
      k_steps
      unfold Stopped
      clear hHI
      rename_i h4 o4 F4 N4 do4
      have N5 : News g L' h4 [(D, LCg.lst ys), (L' + 1, o4)] := N4
      clear N4
      refine' cutE True [(L' + 1, o4)] F4 ?_ ?_
      · have hLC : HandLC := ⟨trivial⟩
        k_steps
        unfold Stopped
        clear hHL
        refine ListComp_N (by k_asm) (by with_unfolding_all rfl) (by decide) (by rfl) (by decide) (by rfl) (by rfl) (by decide) ?_
        k_steps
        refine ⟨d9, o9, _, D, ys.toArray, ys.length, _, rfl, rfl, F9, N9, by k_mem, hd9, lo9, by k_mem, fun gg => ⟨?_, ?_, ?_⟩⟩
        · intro i v I oI C oC D2 m2 h6 tk6 E' hP hoC hxx F6 N6
          k_steps
          exact LeafEnd.intro (by k_asm) (by k_asm) (fun _ hp => hp) trivial
        · intro i v j u J oJ I oI C oC D2 m2 h6 tk6 E' hP hu hoC hxx hyy F6 N6
          obtain ⟨key, xx, hk, his⟩ := hP
          obtain ⟨t, rfl⟩ := strOf_str his
          obtain ⟨one, t1, h1, rfl⟩ := strs_get hys (by simpa using hu)
          have hkm : key ∈ keysT := List.mem_map_of_mem (f := Prod.fst) (List.mem_of_getElem? hk)
          have hag : wordC one key = lwordC one key := word_agree (asked_not _ (List.mem_of_getElem? h1)) (good_key hkm)
          have hka := asc_key hkm
          clear his hk hd9
          k_steps
          · rw [hag]; simp
          · exact LeafEnd.intro (by k_asm) (by k_asm) (fun _ hp => hp) trivial
        · intro D2 h6 tk6 F6 N6 off6
          k_steps
          exact CutEnd.intro (by k_asm) (by k_asm) (by kstt_sub) trivial
      · rintro h6 tk6 _ F6 N6
        dsimp only
        k_steps
        exact Back.intro [] (by k_asm) (fun _ hp => nomatch hp) (congrArg Value.bool (by simp))

theorem final : PySem.Challenge.rw_on0182_01.Holds := hd (by
  k_fill
  intro w s₀ s₁ mg mb G Y fa o pm cd doc dV kV ho hdd hcd hD hmg hg args vals as hpre hlay hrd hwl hlo
  have KX := kIn_of Y
  refine Ground.open G ?_
  intro T B D TE TW
  have hfa := mg_of (n := Str.ofString "law") (v := .ref 240) KX (Top.g T) (by kernel_rfl)
  have hfe : fa = 240 := by
    have := hmg.symm.trans hfa
    cases this; rfl
  subst hfe
  wrow_args hpre hlay hrd hwl hlo
  rename_i ns _ _ _ _ _ _ _ sc vsA _ hL _ _ _ hI _ hc1 _
  have K0 : Below callerA s₁.heap [] s₁.heap := below_caller (Top.heap T)
  refine enter_call ?_
  refine law_does ⟨w, _, mg, mb⟩ sc vsA ns hI (by omega) s₁.heap s₁.heap [] s₁ _ hL K0 KX T (fun _ _ e => e) (Nat.le_refl _) (fun _ hp => nomatch hp) (fun v h' tk' n' st hn' p => ?_)
  subst p
  have hpost : PySem.Challenge.rw_on0182_01.row.claim.post [ofPy (PyData.list (List.map PyData.int ns))] (WData.bool true) [ofPy (PyData.list (List.map PyData.int ns))] = true := by
    exact postW_of (by wrow_shape) (by wtm_val) (by str_meet; first | done | w_fin)
  exact GoodW.toG ⟨.inl ⟨.bool true, .bool true, [], rfl, fun _ => rfl, .bool true, hpost, fun _ => ⟨.nil, fun _ h => nomatch h⟩⟩, st, rfl, hg⟩)

end Mine
theorem PySem.Challenge.cw_on0182_01_holds : PySem.Challenge.rw_on0182_01.Holds :=
  Mine.final
