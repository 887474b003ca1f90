import PyProof.Rows.All
import Wide.All
import OpenK.AllK
import Wide.FinOn
import PySem.Challenge.RW_xm0668_01
/- xm0668-01: the law about call_of_two_texts. The head (the run of the text's top) is one check over a heap that is a tree; each def of the law's is walked
   once, for all its arguments (a contract); the plain law (places found sign by sign against find) is shown apart; the law's own body is walked with the contracts. -/
open PySem PySem.W PySem.Spec PySem.Calls PyProof.Rows
set_option Elab.async false
set_option maxRecDepth 100000
namespace Mine
/-- the run of the top over a heap that is a tree -/
noncomputable def runT (st : SharedT → Thread → Option (SharedT × Thread)) (ok : Thread → Bool) : Nat → SharedT → Thread → Option SharedT
  | 0, _, _ => none
  | n + 1, s, t => match through t with
    | true => some s
    | false => match ok t with
      | false => none
      | true => match st s t with
        | some (s', t') => runT st ok n s' t'
        | none => none
theorem runT_top {tb : String → Option Builtin} {p : Program} {w : World} {n₀ : Nat} {ann : Option Value} : ∀ (n : Nat) (s s₁ : SharedT) (t : Thread),
    runT (stepT (denote tb) p w) (stepOk n₀ ann) n s t = some s₁ → topRun tb p w n₀ ann n s.abs t = some s₁.abs
  | 0, _, _, _, h => by simp [runT] at h
  | n + 1, s, s₁, t, h => by
    unfold runT at h
    unfold topRun
    cases ht : through t with
    | true => rw [ht] at h; cases h; rfl
    | false =>
      rw [ht] at h
      cases hk : stepOk n₀ ann t with
      | false => rw [hk] at h; cases h
      | true =>
        rw [hk] at h
        cases hs : stepT (denote tb) p w s t with
        | none => rw [hs] at h; cases h
        | some r =>
          obtain ⟨s', t'⟩ := r
          rw [hs] at h
          have e := stepT_spec hs
          show (match step (denote tb) p w s.abs t with | .go s' t' => topRun tb p w n₀ ann n s' t' | .halt _ _ => none) = _
          rw [e]
          exact runT_top n s' s₁ t' h
noncomputable def treeOf : List Obj → Nat → BT → BT
  | [], _, t => t
  | o :: r, n, t => treeOf r (n + 1) (t.ins n o)
noncomputable def bootT (P : Params) : BT := treeOf (boot_heap P).objs.toList 0 .nil
noncomputable def bootS (P : Params) (os : OsState) : SharedT := ⟨bootT P, 11, {}, #[], boot_drawn, boot_toks, os⟩
theorem boot_abs (P : Params) (os : OsState) : (bootS P os).abs = ⟨boot_heap P, #[], boot_drawn, boot_toks, os⟩ := by kernel_rfl
theorem boot_size (P : Params) : ((boot_heap P).isNs mainGlobals, (boot_heap P).objs.size, (boot_heap P).nsMap mainGlobals "__annotations__") = (true, 11, some (Value.ref 6)) := by kernel_rfl
theorem left_tree {p q : Program} {loose : List Str} {Xt : Shared → Bool} {α : Type} {Yf : Shared → α} {Ya : World → α} {N : Nat} {g0 : Bool} (e : opening p = plainProg p.main.scope.names) (hN : Nat.ble 600 N = true) (f : ∀ s, fenceModules? p s = some s)
    (h : ∀ (w : World), (fun os => (runT (Fast.tw10156331382660048174 (Fast.tw11892475500146522536 Fast.tw14364793385576792824) p w) (Fast.tw6613529449190102663 11 (some (Value.ref 6))) N (bootS w.params os) (topStub p)).map
      (fun s => ((staticsOk (importedModules p.main.body) (boot_heap w.params) s.abs.heap && namesBound p s.abs.heap && gensDone s.abs && laidKept (boot_heap w.params) s.abs.heap),
        Fast.tw4187177175401517315 q loose (importedModules p.main.body) Xt g0 s.abs, Yf s.abs))) = fun _ => some (true, openGood q loose, Ya w)) : LeftO p q loose Xt Yf Ya N g0 := by
  intro w
  obtain ⟨⟨hp, gs, d, k, os⟩, e1, e2⟩ := Option.map_eq_some_iff.mp (boot_open e hN f w)
  obtain ⟨rfl, rfl, rfl, rfl⟩ : hp = boot_heap w.params ∧ gs = Array.mk [] ∧ d = boot_drawn ∧ k = boot_toks := by simpa using e2
  have h1 := congrFun (h w) os
  obtain ⟨s₁, e3, e4⟩ := Option.map_eq_some_iff.mp h1
  rw [← Fast.te10156331382660048174, ← Fast.te11892475500146522536, ← Fast.te14364793385576792824, ← Fast.te6613529449190102663] at e3
  have e5 := runT_top _ _ _ _ e3
  rw [boot_abs] at e5
  obtain ⟨z1, z2, z3⟩ : _ ∧ _ ∧ _ := by simpa only [Prod.mk.injEq] using boot_size w.params
  obtain ⟨l1, l2, l3⟩ : _ ∧ _ ∧ _ := by simpa only [Prod.mk.injEq] using e4
  have t : topFrom treeTable p w N ⟨boot_heap w.params, Array.mk [], boot_drawn, boot_toks, os⟩ = some s₁.abs := by
    unfold topFrom
    dsimp only
    rw [z1, z2, z3, e5]
    show (match staticsOk (importedModules p.main.body) (boot_heap w.params) s₁.abs.heap && namesBound p s₁.abs.heap && gensDone s₁.abs && laidKept (boot_heap w.params) s₁.abs.heap with | true => _ | false => _) = _
    rw [l1]
  unfold openEnds
  rw [e1]
  show (topFrom treeTable p w N _).map _ = _
  rw [t, Fast.te4187177175401517315]
  exact congrArg some (Prod.ext l2 l3)
/-- the statements that stay in view: all but six of the text's twenty-six -/
noncomputable def pickV (p : Program) (s0 s1 s2 s3 s4 s5 s6 s7 s8 s9 s10 s11 s12 s13 s14 s15 s16 s17 s18 s19 s20 s21 s22 s23 s24 s25 : Stmt) (_ : p.main.body = [s0, s1, s2, s3, s4, s5, s6, s7, s8, s9, s10, s11, s12, s13, s14, s15, s16, s17, s18, s19, s20, s21, s22, s23, s24, s25]) : Program :=
  { p with main := { p.main with body := [s0, s2, s3, s4, s5, s7, s8, s10, s11, s13, s15, s16, s17, s19, s20, s21, s22, s23, s24, s25] } }
noncomputable def view0 : Program := pickV PySem.Challenge.rw_xm0668_01.row.toRowW.prog _ _ _ _ _ _ _ _ _ _ _ _ _ _ _ _ _ _ _ _ _ _ _ _ _ _ rfl
section
local macro_rules | `(tactic| o_head $H) => `(tactic| (
  refine holds_open (q := view0) (loose := []) (Xt := fun s => xlAt view0 [] s && recOk (RowW.records PySem.Challenge.rw_xm0668_01.row.toRowW) s) (XP := XL view0 []) (Yf := Hook.obs $H) (Ya := Hook.val $H) (YP := Hook.says $H) (N := 5166)
    (left_tree (by kernel_rfl) (by kernel_rfl) (fun _ => by kernel_rfl) (fun w => by kernel_rfl)) (Hook.of $H) (Hook.keeps $H) (fun s e => xl_of s (Bool.and_eq_true_iff.mp e).1) XL.keeps (by rfl) (by rfl) (by rfl) (fun s e => recFacts_of (Bool.and_eq_true_iff.mp e).2) (by rfl) (by first | assumption | decide +kernel) (by decide +kernel) ⟨rfl, rfl, rfl, rfl, rfl, by decide +kernel⟩ ?hw ?hc))
set_option maxHeartbeats 8000000 in
open_top hd for PySem.Challenge.rw_xm0668_01
end

/- part A0 -/
/-- what stands outside the places `xs` stays -/
def Stay (xs : List Addr) (h h' : Heap) : Prop := ∀ b o, h.get? b = some o → b ∉ xs → h'.get? b = some o
def Then (P : Prop) (R : Prop) : Prop := P → R
section
variable {prog : Program} {w : World} {A₀ A : Around} {s : Shared} {base h₀ : Heap} {outer : List Env} {L : Addr} {m mg mb : Str → Option Value} {env : Env} {news : List (Addr × Obj)} {K : Frag} {p : Program} {loose : List Str} {mean : ExcName → Option Value}
  {R : Result → Shared → Prop} {name qual : Str} {params : Arguments} {body : List Stmt} {scope : Scope} {dV kV doc pm cdv ct oc : Value} {an od : Option Addr} {osl : Array (Option Value)} {f : Addr} {args : Args} {binds : List (Str × Value)}
theorem stay_of_leave {h : Heap} {g : Heap} {v : Value} {s' : Shared} {R' : Result → Shared → Prop} {xs : List Addr} (eg : g = hideAll h xs) (hl : LeaveK h₀ L m g R' v s') : Stay xs h s'.heap := by
  obtain ⟨L', m', news', F', N', k⟩ := hl
  subst eg
  intro b o e hb
  exact F'.keep b o (hideAll_get _ e hb)
theorem callX_stay {cl : List (Str × Addr)} {fo : Obj} (B : Below A₀ base outer h₀) (F : Fr h₀ L s.heap m) (N : News h₀ L s.heap news) (hlim : h₀.NoLimit) (hA : A.frames = some (env :: outer)) (hf : env.frame = some L) (hke : env.scope.kind = .function)
    (ho : s.heap.get? f = some fo) (hd : fo.data = .func (fnX name qual params body scope cl dV kV doc pm an cdv ct)) (hcd : s.heap.CodeRec cdv qual) (hroom : A.depth < recursionLimit)
    (hbind : BindsTo s (fnX name qual params body scope cl dV kV doc pm an cdv ct) args binds) (hloc : ∀ y ∈ binds, scope.names.lookup y.1 = some .local)
    (h : ∀ g L' h₁, Fr h₀ L g m → Fr g L' h₁ (fun y => binds.reverse.lookup y) → News g L' h₁ news → Below A base (env :: outer) g → h₀.StaysIn g → (∀ p ∈ news, p.1 < L') → Stay (news.map (·.1)) s.heap g →
      wpAny (model prog w) (A.deeper (envX qual scope L' f cdv cl)) (execs body (envX qual scope L' f cdv cl))
        (fun fl s' => LeaveK h₀ L m g (fun r s'' => Then (Stay (news.map (·.1)) s.heap s''.heap) (R r s'')) (match fl with | .ret v => v | _ => .none) s')
        (fun e s' => wpAny (model prog w) (A.deeper (envX qual scope L' f cdv cl)) (leaving (envX qual scope L' f cdv cl) e) (fun _ s'' => R (.error e) s'') (fun e' s'' => R (.error e') s'') s')
        { s with heap := h₁, toks := s.toks + binds.length })
    (hcell : ∀ x ∈ scope.names, x.2 ≠ .cell) (hco : scope.isCoroutine = false := by rfl) (hgen : scope.isGenerator = false := by rfl) (hk : scope.kind = .function := by rfl) : codeAny (model prog w) A (.call (.ref f) args) R s := by
  obtain ⟨FG, BG, st, lv⟩ := groundX (R := fun r s'' => Then (Stay (news.map (·.1)) s.heap s''.heap) (R r s'')) B F N hA hf hke
  refine codeAny_call_def (fd := fnX name qual params body scope cl dV kV doc pm an cdv ct) (body := body) (binds := binds) hroom ho hd (hlim.keeps F.keep) hcd rfl hbind hcell hloc (fun h₁ hns hk₁ => ?_) hco hgen hk
  exact wpAny_mono (h _ s.heap.objs.size h₁ FG ⟨hns, fun b o e => hk₁ b o (of_hideAll _ e), Nat.le_of_eq (hideAll_size _ _)⟩
    (fun p hp => ⟨hk₁ _ _ (N p hp).1, Nat.ne_of_lt (Heap.lt_size (N p hp).1), hideAll_none _ (List.mem_map_of_mem hp)⟩) BG st (fun p hp => Heap.lt_size (N p hp).1) (fun b o e hb => hideAll_get _ e hb)) (fun fl s' hl => lv _ _ hl (stay_of_leave rfl hl)) fun _ _ y => y
theorem code_stay (B : Below A₀ base outer h₀) (F : Fr h₀ L s.heap m) (X₀ : K.In h₀) (N : News h₀ L s.heap news) (T : Top p loose mean mg mb h₀) (hA : A.frames = some (env :: outer)) (hf : env.frame = some L) (hke : env.scope.kind = .function)
    (ho : K.lookup f = some ⟨oc, od, .func (fnOf name qual params body scope dV kV doc pm an cdv ct), osl⟩) (hcd : codeIn K cdv qual = true) (hroom : A.depth < recursionLimit)
    (hbind : BindsTo s (fnOf name qual params body scope dV kV doc pm an cdv ct) args binds) (hloc : ∀ y ∈ binds, scope.names.lookup y.1 = some .local)
    (h : ∀ g L' h₁, Fr h₀ L g m → Fr g L' h₁ (fun y => binds.reverse.lookup y) → News g L' h₁ news → Below A base (env :: outer) g → K.In g → Top p loose mean mg mb g → Stay (news.map (·.1)) s.heap g →
      wpAny (model prog w) (A.deeper (envOf qual scope L' f cdv)) (execs body (envOf qual scope L' f cdv))
        (fun fl s' => LeaveK h₀ L m g (fun r s'' => Then (Stay (news.map (·.1)) s.heap s''.heap) (R r s'')) (match fl with | .ret v => v | _ => .none) s')
        (fun e s' => wpAny (model prog w) (A.deeper (envOf qual scope L' f cdv)) (leaving (envOf qual scope L' f cdv) e) (fun _ s'' => R (.error e) s'') (fun e' s'' => R (.error e') s'') s')
        { s with heap := h₁, toks := s.toks + binds.length })
    (hco : scope.isCoroutine = false) (hgen : scope.isGenerator = false) (hk : scope.kind = .function)
    (hcell : ∀ x ∈ scope.names, x.2 ≠ .cell) : codeAny (model prog w) A (.call (.ref f) args) R s :=
  callX_stay (cl := []) B F N T.nolimit hA hf hke ((X₀.keeps F.keep) _ _ ho) rfl (codeRec_of (X₀.keeps F.keep) hcd) hroom hbind hloc (fun g L' h₁ FG F' N' B' st _ sg => h g L' h₁ FG F' N' B' (X₀.keeps st) (T.keeps st) sg) hcell hco hgen hk
theorem callX_stayC (B : Below A₀ base outer h₀) (F : Fr h₀ L s.heap m) (N : News h₀ L s.heap news) (hlim : h₀.NoLimit) (hA : A.frames = some (env :: outer)) (hf : env.frame = some L) (hke : env.scope.kind = .function) {fo : Obj}
    (ho : s.heap.get? f = some fo) (hd : fo.data = .func (fnX name qual params body scope [] dV kV doc pm an cdv ct)) (hcd : s.heap.CodeRec cdv qual) (hroom : A.depth < recursionLimit)
    (hbind : BindsTo s (fnX name qual params body scope [] dV kV doc pm an cdv ct) args binds)
    (hkind : ∀ n, ∀ x ∈ binds, scope.names.lookup x.1 = some .local ∨ (scope.names.lookup x.1 = some .cell ∧ ((cellsFrom n scope.names []).lookup x.1).isSome = true))
    (hnd : ((cellsFrom 0 scope.names []).map (·.1)).Nodup)
    (h : ∀ g L' h₁ tk cells, Fr h₀ L g m → Fr g L' h₁ (bindL (envOfC qual scope L' f cdv).kindOf binds fun _ => none) → News g L' h₁ (cells ++ news) →
      CellsAre (bindC (envOfC qual scope L' f cdv).kindOf binds fun _ => none) (cellsFrom (L' + 1) scope.names []) cells → Below A base (env :: outer) g → h₀.StaysIn g → (∀ p ∈ news, p.1 < L') → Stay (news.map (·.1)) s.heap g →
      wpAny (model prog w) (A.deeper (envOfC qual scope L' f cdv)) (execs body (envOfC qual scope L' f cdv))
        (fun fl s' => LeaveK h₀ L m g (fun r s'' => Then (Stay (news.map (·.1)) s.heap s''.heap) (R r s'')) (match fl with | .ret v => v | _ => .none) s')
        (fun e s' => wpAny (model prog w) (A.deeper (envOfC qual scope L' f cdv)) (leaving (envOfC qual scope L' f cdv) e) (fun _ s'' => R (.error e) s'') (fun e' s'' => R (.error e') s'') s')
        { s with heap := h₁, toks := tk })
    (hco : scope.isCoroutine = false := by rfl) (hgen : scope.isGenerator = false := by rfl) (hk : scope.kind = .function := by rfl) : codeAny (model prog w) A (.call (.ref f) args) R s := by
  obtain ⟨FG, BG, st, lv⟩ := groundX (R := fun r s'' => Then (Stay (news.map (·.1)) s.heap s''.heap) (R r s'')) B F N hA hf hke
  refine codeAny_call_function hroom ho hd hco hgen rfl hcd (hbind _ _ _ _ ?_)
  refine wpAny_newFunctionEnv_cells hk (hkind _) fun env' he s' x => ?_
  subst he
  refine ⟨(hlim.keeps F.keep).keeps x.toInCall.keep, codeAny_func ?_⟩
  obtain ⟨h₁, tk, rfl, _⟩ := x.done
  have hk₁ := x.toInCall.keep
  obtain ⟨cells, NC, Y⟩ := Cl.news (h₀ := s.heap) (Nat.le_refl _) fun n c hm => ⟨x.cell n c (lookup_of_mem_nodup (cellsFrom_names scope.names 0 (s.heap.objs.size + 1) [] [] rfl ▸ hnd) hm), x.above n c hm⟩
  refine wpAny_mono (h _ s.heap.objs.size h₁ tk cells FG ⟨x.toInCall.ns, fun b o e => hk₁ b o (of_hideAll _ e), Nat.le_of_eq (hideAll_size _ _)⟩ (fun p hp => ?_) Y BG st (fun p hp => Heap.lt_size (N p hp).1) (fun b o e hb => hideAll_get _ e hb)) (fun fl s' hl => lv _ _ hl (stay_of_leave rfl hl)) fun _ _ y => y
  rcases List.mem_append.mp hp with hp | hp
  · refine ⟨(NC p hp).1, (NC p hp).2.1, ?_⟩
    cases q : (hideAll s.heap (news.map (·.1))).get? p.1 with
    | none => rfl
    | some o => have := of_hideAll _ q; rw [(NC p hp).2.2] at this; cases this
  · exact ⟨hk₁ _ _ (N p hp).1, Nat.ne_of_lt (Heap.lt_size (N p hp).1), hideAll_none _ (List.mem_map_of_mem hp)⟩
theorem code_stayC (B : Below A₀ base outer h₀) (F : Fr h₀ L s.heap m) (X₀ : K.In h₀) (N : News h₀ L s.heap news) (T : Top p loose mean mg mb h₀) (hA : A.frames = some (env :: outer)) (hf : env.frame = some L) (hke : env.scope.kind = .function)
    (ho : K.lookup f = some ⟨oc, od, .func (fnOf name qual params body scope dV kV doc pm an cdv ct), osl⟩) (hcd : codeIn K cdv qual = true) (hroom : A.depth < recursionLimit)
    (hbind : BindsTo s (fnOf name qual params body scope dV kV doc pm an cdv ct) args binds) (hkind : (binds.all fun y => scope.names.lookup y.1 == some .local || scope.names.lookup y.1 == some .cell) = true)
    (hnd : ((cellsFrom 0 scope.names []).map (·.1)).Nodup)
    (h : ∀ g L' h₁ tk cells, Fr h₀ L g m → Fr g L' h₁ (bindL (envOfC qual scope L' f cdv).kindOf binds fun _ => none) → News g L' h₁ (cells ++ news) →
      CellsAre (bindC (envOfC qual scope L' f cdv).kindOf binds fun _ => none) (cellsFrom (L' + 1) scope.names []) cells → Below A base (env :: outer) g → K.In g → Top p loose mean mg mb g → (∀ p ∈ news, p.1 < L') → Stay (news.map (·.1)) s.heap g →
      wpAny (model prog w) (A.deeper (envOfC qual scope L' f cdv)) (execs body (envOfC qual scope L' f cdv))
        (fun fl s' => LeaveK h₀ L m g (fun r s'' => Then (Stay (news.map (·.1)) s.heap s''.heap) (R r s'')) (match fl with | .ret v => v | _ => .none) s')
        (fun e s' => wpAny (model prog w) (A.deeper (envOfC qual scope L' f cdv)) (leaving (envOfC qual scope L' f cdv) e) (fun _ s'' => R (.error e) s'') (fun e' s'' => R (.error e') s'') s')
        { s with heap := h₁, toks := tk })
    (hco : scope.isCoroutine = false) (hgen : scope.isGenerator = false) (hk : scope.kind = .function) : codeAny (model prog w) A (.call (.ref f) args) R s :=
  callX_stayC B F N T.nolimit hA hf hke ((X₀.keeps F.keep) _ _ ho) rfl (codeRec_of (X₀.keeps F.keep) hcd) hroom hbind (kindsX hkind) hnd (fun g L' h₁ tk cells FG F' N' Y B' st l sg => h g L' h₁ tk cells FG F' N' Y B' (X₀.keeps st) (T.keeps st) l sg) hco hgen hk
end
/-- a call of the def at `f` -/
def Does (w : World) (mean : ExcName → Option Value) (mg mb : Str → Option Value) (f : Addr) (vs : List Value) (news : List (Addr × Obj)) (need units : Nat) (Post : Heap → Value → List (Addr × Obj) → Prop) : Prop :=
  ∀ (dp un : Nat) (gd : Option (List Code)) (cn : Str) (cs : Scope) (a : Addr) (ccd : Value) (cl : List (Str × Addr)) (outer : List Env) (A₀ : Around) (base h₀ : Heap) (L : Addr) (m : Str → Option Value) (s : Shared) (Q E : Value → Shared → Prop),
    Below A₀ base outer h₀ → Fr h₀ L s.heap m → (hd.heap_39 w.params).In h₀ → News h₀ L s.heap news → Top view0 (looseW view0 []) mean mg mb h₀ → cs.kind = .function →
    dp + need < recursionLimit → un + units < cLine →
    (∀ (v : Value) (news' : List (Addr × Obj)) (h' : Heap) (tk' : Nat), Post s.heap v news' → Fr h₀ L h' m → News h₀ L h' news' → Stay (news.map (·.1)) s.heap h' → Q v { s with heap := h', toks := tk' }) →
    wpAny (model PySem.Challenge.rw_xm0668_01.row.prog w) (ktrTop dp un gd cn cs L a ccd cl outer) (call (.ref f) vs) Q E s
/-- posts of the defs that make one thing -/
def NewPost (P : Value → Addr → Obj → Prop) : Heap → Value → List (Addr × Obj) → Prop := fun h v news => ∃ l o, news = [(l, o)] ∧ h.get? l = none ∧ P v l o
/-- posts of the defs that make nothing -/
def PurePost (P : Value → Prop) : Heap → Value → List (Addr × Obj) → Prop := fun _ v _ => P v
section
variable {w : World} {mean : ExcName → Option Value} {mg mb : Str → Option Value} {f : Addr} {vs : List Value} {news : List (Addr × Obj)} {need units : Nat} {P : Value → Addr → Obj → Prop} {P1 : Value → Prop}
  {dp un : Nat} {gd : Option (List Code)} {cn : Str} {cs : Scope} {a : Addr} {ccd : Value} {cl : List (Str × Addr)} {outer : List Env} {A₀ : Around} {base h₀ : Heap} {L : Addr} {m : Str → Option Value} {s : Shared} {Q E : Value → Shared → Prop}
theorem news_stay {h h' : Heap} (N : News h₀ L h news) (st : Stay [] h h') : News h₀ L h' news := fun p hp => ⟨st _ _ (N p hp).1 (fun h => nomatch h), (N p hp).2⟩
theorem use_new (D : Does w mean mg mb f vs [] need units (NewPost P))
    (B : Below A₀ base outer h₀) (F : Fr h₀ L s.heap m) (X : (hd.heap_39 w.params).In h₀) (N : News h₀ L s.heap news) (T : Top view0 (looseW view0 []) mean mg mb h₀) (hk : cs.kind = .function)
    (hdp : dp + need < recursionLimit) (hun : un + units < cLine)
    (ret : ∀ (v : Value) (l : Addr) (o : Obj) (h' : Heap) (tk' : Nat), P v l o → LCg.Off1 l news → Fr h₀ L h' m → News h₀ L h' ((l, o) :: news) → Q v { s with heap := h', toks := tk' }) :
    wpAny (model PySem.Challenge.rw_xm0668_01.row.prog w) (ktrTop dp un gd cn cs L a ccd cl outer) (call (.ref f) vs) Q E s := by
  refine D dp un gd cn cs a ccd cl outer A₀ base h₀ L m s Q E B F X News.nil T hk hdp hun ?_
  rintro v news' h' tk' ⟨l, o, rfl, hn, hP⟩ F' N' hst
  have off : ∀ p ∈ news, p.1 ≠ l := fun p hp e => by
    have := (N p hp).1
    rw [e, hn] at this; cases this
  have off1 : ∀ ns : List (Addr × Obj), (∀ p ∈ ns, p.1 ≠ l) → LCg.Off1 l ns := by
    intro ns
    induction ns with
    | nil => exact fun _ => trivial
    | cons p r ih => exact fun h => ⟨h _ (.head _), ih fun q hq => h q (.tail _ hq)⟩
  refine ret v l o h' tk' hP (off1 news off) F' fun p hp => ?_
  rcases List.mem_cons.mp hp with rfl | hp
  · exact N' _ (.head _)
  · exact news_stay N hst p hp
theorem use_pure (D : Does w mean mg mb f vs [] need units (PurePost P1))
    (B : Below A₀ base outer h₀) (F : Fr h₀ L s.heap m) (X : (hd.heap_39 w.params).In h₀) (N : News h₀ L s.heap news) (T : Top view0 (looseW view0 []) mean mg mb h₀) (hk : cs.kind = .function)
    (hdp : dp + need < recursionLimit) (hun : un + units < cLine)
    (ret : ∀ (v : Value) (h' : Heap) (tk' : Nat), P1 v → Fr h₀ L h' m → News h₀ L h' news → Q v { s with heap := h', toks := tk' }) :
    wpAny (model PySem.Challenge.rw_xm0668_01.row.prog w) (ktrTop dp un gd cn cs L a ccd cl outer) (call (.ref f) vs) Q E s := by
  refine D dp un gd cn cs a ccd cl outer A₀ base h₀ L m s Q E B F X News.nil T hk hdp hun ?_
  intro v news' h' tk' hP F' N' hst
  exact ret v h' tk' hP F' (news_stay N hst)
end
local macro_rules | `(tactic| walk_at "MINE my_enter") => `(tactic| (refine' code_stay ?k1 ?k2 ?k3 ?k4 ?k5 ?kA ?kF ?kK ?k6 ?k7 ?k8 ?k9 ?kB ?_ ?c2 ?c3 ?c4 ?c5; (case kA => exact rfl); (case kF => exact rfl); (case kK => assumption); (case k1 => k_asm); (case k2 => k_asm); (case k3 => k_asm); (case k4 => k_asm); (case k5 => k_asm); (case k6 => k_is); (case k7 => k_is); (case k8 => ktr_room); (case k9 => exact BindsTo.of_eq rfl); (case c5 => decide); (case kB => exact locs rfl); (case c2 => exact rfl); (case c3 => exact rfl); (case c4 => exact rfl); k_whole; intro g' L' h' FG' F' N' B' X' T' SG'; (try dsimp only); (try k_lift B'); (try k_fold)))
local macro_rules | `(tactic| walk_at "MINE in_enter") => `(tactic| (refine' code_def ?k1 ?k2 ?k3 ?k4 ?k5 ?kA ?kF ?kK ?k6 ?k7 ?k8 ?k9 ?kB ?_ ?c2 ?c3 ?c4 ?c5; (case kA => exact rfl); (case kF => exact rfl); (case kK => first | exact rfl | assumption); (case k1 => k_asm); (case k2 => k_asm); (case k3 => k_asm); (case k4 => k_asm); (case k5 => k_asm); (case k6 => k_is); (case k7 => k_is); (case k8 => ktr_room); (case k9 => exact BindsTo.of_eq rfl); (case c5 => decide); (case kB => exact locs rfl); (case c2 => exact rfl); (case c3 => exact rfl); (case c4 => exact rfl); k_whole; intro g' L' h' FG' F' N' B' X' T'; (try dsimp only); (try k_lift B'); (try k_fold)))
local macro_rules | `(tactic| walk_at "MINE my_enterC") => `(tactic| (refine' code_stayC ?k1 ?k2 ?k3 ?k4 ?k5 ?kA ?kF ?kK ?k6 ?k7 ?k8 ?k9 ?kB ?kD ?_ ?c2 ?c3 ?c4; (case kA => exact rfl); (case kF => exact rfl); (case kK => assumption); (case k1 => k_asm); (case k2 => k_asm); (case k3 => k_asm); (case k4 => k_asm); (case k5 => k_asm); (case k6 => k_is); (case k7 => k_is); (case k8 => ktr_room); (case k9 => exact BindsTo.of_eq rfl); (case kB => exact rfl); (case kD => decide +kernel); (case c2 => exact rfl); (case c3 => exact rfl); (case c4 => exact rfl); k_whole; intro g' L' h' tk' cells' FG' F' N' Y' B' X' T' l1 SG'; (try k_lt l1); k_cells Y'; (try simp only [List.cons_append, List.nil_append] at N'); (try dsimp only); (try k_lift B'); (try k_fold)))
/- part A1 -/
abbrev srcOf (x y : Int) (tx ty : Tok) (n : Nat) : Obj := W.listOf #[.int x tx, .int y ty] n
def Src (o : Obj) : Prop := ∃ x y tx ty n, o = srcOf x y tx ty n ∧ 0 ≤ x ∧ 0 ≤ y ∧ y < 2147483647
theorem fmod_bnd (a : Int) {b : Int} (hb : 0 < b) : 0 ≤ a.fmod b ∧ a.fmod b < b := by
  rw [Int.fmod_eq_emod_of_nonneg _ (Int.le_of_lt hb)]
  exact ⟨Int.emod_nonneg _ (by omega), Int.emod_lt_of_pos _ hb⟩
theorem fdiv_nn {a b : Int} (ha : 0 ≤ a) (hb : 0 < b) : 0 ≤ a.fdiv b := by
  rw [Int.fdiv_eq_ediv_of_nonneg _ (Int.le_of_lt hb)]
  exact Int.ediv_nonneg ha (by omega)
theorem mul_ok_fmod (u : Int) (c : Int) (t : Int) (h0 : 0 < c) (h1 : c < 2 ^ 62) (e : t = u.fmod c) : IntMulOk t t := by
  have := fmod_bnd u h0
  exact .of_right (PySem.intBits_le_64 (by omega) (by omega))
section
local macro_rules | `(tactic| mul_fits) => `(tactic| exact mul_ok_fmod _ 2147483647 _ (by decide) (by decide) rfl)
set_option maxHeartbeats 4000000
theorem take1 (w : World) (mean mg mb) (S : Addr) (o : Obj) (top : Int) (tt : Tok) (ho : Src o) (ht : 0 < top) (ht2 : top < 1000) :
    Does w mean mg mb 363 [.ref S, .int top tt] [(S, o)] 1 8 (fun _ v news => ∃ r tr o', v = .int r tr ∧ news = [(S, o')] ∧ 0 ≤ r ∧ r < top ∧ Src o') := by
  obtain ⟨x, y, tx, ty, n, rfl, hx, hy, hy2⟩ := ho
  unfold Does
  w_top off
  k_fill
  intro dp un gd cn cs a ccd cl outer A₀ base h₀ L m s Q E B F X N T hk hdp hun hret
  refine wpAny_call ?_
  k_dflt (walk_at "MINE my_enter")
  k_steps
  all_goals intro hst
  · exact hret _ _ _ _ ⟨_, _, _, rfl, rfl, (fmod_bnd _ ht).1, (fmod_bnd _ ht).2, _, _, _, _, _, rfl, fdiv_nn hx ht, hy, hy2⟩ (by assumption) (by assumption) hst
  · exact hret _ _ _ _ ⟨_, _, _, rfl, rfl, (fmod_bnd _ ht).1, (fmod_bnd _ ht).2, _, _, _, _, _, rfl, hx, (fmod_bnd _ (by decide)).1, (fmod_bnd _ (by decide)).2⟩ (by assumption) (by assumption) hst
end
/- part A2 -/
section
variable {w : World} {mean : ExcName → Option Value} {mg mb : Str → Option Value} {f : Addr} {vs : List Value} {S : Addr} {o : Obj} {sub news : List (Addr × Obj)} {need units : Nat} {P : Value → Prop} {g : Obj → List (Addr × Obj)}
  {dp un : Nat} {gd : Option (List Code)} {cn : Str} {cs : Scope} {a : Addr} {ccd : Value} {cl : List (Str × Addr)} {outer : List Env} {A₀ : Around} {base h₀ : Heap} {L : Addr} {m : Str → Option Value} {s : Shared} {Q E : Value → Shared → Prop}
/-- the posts of the defs that turn the source alone -/
abbrev SrcPost (S : Addr) (sub : List (Addr × Obj)) (P : Value → Prop) : Heap → Value → List (Addr × Obj) → Prop := fun _ v news => ∃ o', news = (S, o') :: sub ∧ Src o' ∧ P v
theorem use_src (D : Does w mean mg mb f vs ((S, o) :: sub) need units (SrcPost S sub P))
    (B : Below A₀ base outer h₀) (F : Fr h₀ L s.heap m) (X : (hd.heap_39 w.params).In h₀) (N : News h₀ L s.heap news) (T : Top view0 (looseW view0 []) mean mg mb h₀) (hk : cs.kind = .function)
    (U : UpdF S o news g) (hsub : ∀ p ∈ sub, p ∈ news) (hdp : dp + need < recursionLimit) (hun : un + units < cLine)
    (ret : ∀ (v : Value) (o' : Obj) (h' : Heap) (tk' : Nat), P v → Src o' → Fr h₀ L h' m → News h₀ L h' (g o') → Q v { s with heap := h', toks := tk' }) :
    wpAny (model PySem.Challenge.rw_xm0668_01.row.prog w) (ktrTop dp un gd cn cs L a ccd cl outer) (call (.ref f) vs) Q E s := by
  obtain ⟨pre, post, rfl, hg, h1, h2⟩ := U.split
  have hS : (S, o) ∈ pre ++ (S, o) :: post := List.mem_append_right _ (.head _)
  have N₁ : News h₀ L s.heap ((S, o) :: sub) := fun p hp => by
    rcases List.mem_cons.mp hp with rfl | hp
    · exact N _ hS
    · exact N _ (hsub p hp)
  refine D dp un gd cn cs a ccd cl outer A₀ base h₀ L m s Q E B F X N₁ T hk hdp hun ?_
  rintro v news' h' tk' ⟨o', rfl, hs, hP⟩ F' N' hst
  refine ret v o' h' tk' hP hs F' ?_
  rw [hg]
  have old : ∀ p ∈ pre ++ (S, o) :: post, p.1 ≠ S → h'.get? p.1 = some p.2 ∧ p.1 ≠ L ∧ h₀.get? p.1 = none := fun p hp hne => by
    by_cases hm : p.1 ∈ ((S, o) :: sub).map (·.1)
    · obtain ⟨q, hq, e⟩ := List.mem_map.mp hm
      rcases List.mem_cons.mp hq with rfl | hq
      · exact absurd e.symm hne
      · have e1 := (N q (hsub q hq)).1
        have e2 := (N p hp).1
        have e3 : q.2 = p.2 := by rw [e, e2] at e1; exact (Option.some.inj e1).symm
        have : q = p := Prod.ext e e3
        subst this
        exact N' q (.tail _ hq)
    · exact ⟨hst _ _ (N p hp).1 hm, (N p hp).2⟩
  intro p hp
  rcases List.mem_append.mp hp with q | q
  · exact old p (List.mem_append_left _ q) (h1 p q)
  · rcases List.mem_cons.mp q with rfl | q
    · exact N' _ (.head _)
    · exact old p (List.mem_append_right _ (.tail _ q)) (h2 p q)
end
theorem take_ok (w : World) (mean mg mb) (S : Addr) (o : Obj) (top : Int) (tt : Tok) (ho : Src o) (ht : 0 < top) (ht2 : top < 1000) :
    Does w mean mg mb 363 [.ref S, .int top tt] [(S, o)] 1 8 (SrcPost S [] fun v => ∃ r tr, v = .int r tr ∧ 0 ≤ r ∧ r < top) := by
  intro dp un gd cn cs a ccd cl outer A₀ base h₀ L m s Q E B F X N T hk hdp hun hret
  exact take1 w mean mg mb S o top tt ho ht ht2 dp un gd cn cs a ccd cl outer A₀ base h₀ L m s Q E B F X N T hk hdp hun (fun v news' h' tk' ⟨r, tr, o', e1, e2, e3, e4, e5⟩ F' N' hst => hret v news' h' tk' ⟨o', e2, e5, r, tr, e1, e3, e4⟩ F' N' hst)
local macro_rules | `(tactic| walk_at "MINE use_pre") => `(tactic| (
  (case k1 => first | k_asm | fail "use: the frames below")
  (case k2 => first | k_asm | fail "use: the frame")
  (case k3 => first | k_asm | fail "use: the written part")
  (case k4 => first | k_asm | fail "use: the ledger")
  (case k5 => first | k_asm | fail "use: the top's facts")
  (case kK => first | exact rfl | assumption | fail "use: the caller is no def")
  (case kU => first | k_updF | fail "use: the source's place")
  (case kd => first | ktr_room | fail "use: the frames' room")
  (case ku => first | ktr_units | fail "use: the C units")))
local macro_rules | `(tactic| walk_at "MINE take_use") => `(tactic| (
  (with_reducible show wpAny _ _ (call (Value.ref 363) [Value.ref _, Value.int _ _]) _ _ _)
  (refine' use_src (take_ok _ _ _ _ _ _ _ _ ?ko ?kt ?kt2) ?k1 ?k2 ?k3 ?k4 ?k5 ?kK ?kU ?ks ?kd ?ku ?_)
  (walk_at "MINE use_pre")
  (case ko => first | assumption | fail "use: the source's word")
  (case kt => first | omega | fail "use: the bound's sign")
  (case kt2 => first | omega | fail "use: the bound's size")
  (case ks => exact fun _ hp => nomatch hp)
  (rintro _ o' h' tk' ⟨r', tr', he', hr0, hr1⟩ hS' F' N')
  (subst he')
  (try dsimp only)
  (try k_fold)))
section
local macro_rules | `(tactic| walk_at "call ref") => `(tactic| (k_here; k_dflt (walk_at "MINE take_use")))
theorem item_any {prog : Program} {w : World} {A : Around} {E : Value → Shared → Prop} {s : Shared} {value slice : PySem.Expr} {h₀ : Heap} {L l : Addr} {news : List (Addr × Obj)} {vs : List Value} {c : Nat} {k : Int} {u : Tok} {Q : Value → Shared → Prop}
    (N : News h₀ L s.heap news) (hm : (l, W.listOf vs.toArray c) ∈ news) (h0 : 0 ≤ k) (hlt : k < vs.length) (hsm : vs.length < 1000) (h : ∀ v ∈ vs, Q v s)
    (hs : subscripted slice false (.ref l) (.int k u) = operate [.ref l, .int k u] (getItem (.ref l) (.int k u)) := by with_unfolding_all rfl) :
    wpAny (model prog w) A (subscriptTail value slice (.ref l) (.int k u)) Q E s := by
  have hl : s.heap.IsList l vs.toArray := ⟨_, (N _ hm).1, rfl, c, rfl⟩
  have hk : k.toNat < vs.length := by omega
  have hx : vs[k.toNat]? = some vs[k.toNat] := List.getElem?_eq_getElem hk
  exact tail_any hl.typeIs slot_list_getitem.lookup (wpAny_getItem_list hl h0 (by omega) (by simpa using hx) (h _ (List.getElem_mem hk))) hs
local macro_rules | `(tactic| walk_at "call builtin:len") => `(tactic| (k_here; (with_reducible show wpAny _ _ (call (Value.builtin "len") [Value.ref _]) _ _ _); k_dflt (refine' kst_len ?k1 ?k2 rfl ?k4 ?_; (case k1 => k_asm); (case k2 => k_mem); (case k4 => omega); k_whole)))
local macro_rules | `(tactic| walk_at "subscriptTail") => `(tactic| (k_here; (with_reducible show wpAny _ _ (subscriptTail _ _ (Value.ref _) (Value.int _ _)) _ _ _); k_dflt (refine' item_any ?k1 ?k2 ?k3 ?k4 ?k5 ?_ ?k6; (case k1 => k_asm); (case k2 => k_mem); (case k3 => omega); (case k4 => omega); (case k5 => assumption); (case k6 => with_unfolding_all rfl); k_whole; intro v' hv')))
set_option maxHeartbeats 4000000
theorem one_ok (w : World) (mean mg mb) (S T : Addr) (o : Obj) (vs : List Value) (k : Nat) (hST : T ≠ S) (ho : Src o) (hv : 0 < vs.length) (hv2 : vs.length < 1000) :
    Does w mean mg mb 370 [.ref S, .ref T] [(S, o), (T, W.listOf vs.toArray k)] 2 16 (SrcPost S [(T, W.listOf vs.toArray k)] fun v => v ∈ vs) := by
  unfold Does
  w_top off
  k_fill
  intro dp un gd cn cs a ccd cl outer A₀ base h₀ L m s Q E B F X N T hk hdp hun hret
  refine wpAny_call ?_
  k_dflt (walk_at "MINE my_enter")
  k_steps
  all_goals intro hst
  exact hret _ _ _ _ ⟨_, rfl, by assumption, by assumption⟩ (by assumption) (by assumption) hst
end
/- part A3 -/
local macro_rules | `(tactic| walk_at "MINE one_use") => `(tactic| (
  (with_reducible show wpAny _ _ (call (Value.ref 370) [Value.ref _, Value.ref _]) _ _ _)
  (refine' use_src (one_ok _ _ _ _ _ _ _ _ _ ?kn ?ko ?kt ?kt2) ?k1 ?k2 ?k3 ?k4 ?k5 ?kK ?kU ?ks ?kd ?ku ?_)
  (case k1 => first | k_asm | fail "use: the frames below")
  (case k2 => first | k_asm | fail "use: the frame")
  (case k3 => first | k_asm | fail "use: the written part")
  (case k4 => first | k_asm | fail "use: the ledger")
  (case k5 => first | k_asm | fail "use: the top's facts")
  (case kK => first | exact rfl | assumption | fail "use: the caller is no def")
  (case kU => first | k_updF | fail "use: the source's place")
  (case ks => first | exact List.forall_mem_cons.mpr ⟨by k_mem, fun _ hp => nomatch hp⟩ | fail "use: the list's place")
  (case kd => first | ktr_room | fail "use: the frames' room")
  (case ku => first | ktr_units | fail "use: the C units")
  (case kn => first | k_ne | omega | fail "use: the places apart")
  (case ko => first | assumption | fail "use: the source's word")
  (case kt => first | decide | (show 0 < List.length _; simp only [List.length_cons]; omega) | fail "use: the list's length")
  (case kt2 => first | decide | (show List.length _ < 1000; simp only [List.length_cons, List.length_nil]; omega) | fail "use: the list's size")
  (intro v' o' h' tk' hv' hS' F' N')
  (try dsimp only)
  (try k_fold)))
section
local macro_rules | `(tactic| walk_at "call ref") => `(tactic| (k_here; k_dflt (walk_at "MINE take_use")))
local macro_rules | `(tactic| walk_at "call ref") => `(tactic| (k_here; k_dflt (walk_at "MINE one_use")))
def Short (v : Value) : Prop := ∃ x t, v = .str x t ∧ x.length ≤ 2
def ShortEl (c S : Addr) (oc : Obj) (y : Value) (news : List (Addr × Obj)) : Prop := ∃ o', (c, oc) ∈ news ∧ (S, o') ∈ news ∧ Src o' ∧ Short y
theorem text_rest {prog : Program} {w : World} {A : Around} {h₀ : Heap} {L : Addr} {m : Str → Option Value} {env : Env} {elt : PySem.Expr} {x : Str} {scope : Scope} {cl : List (Str × Addr)} {s : Shared} {Fin : List Value → List (Addr × Obj) → Prop} {c S : Addr} {oc o : Obj} {n : Nat} {a : Int} (ho : Src o)
    (turn : ∀ o k t I oI C oC D m₂ ys h tk (E' : Value → Shared → Prop), Src o → LCg.NsObj oC m₂ → m₂ x = some (.int k t) → Fr h₀ L h m → News h₀ L h [(I, oI), (C, oC), (D, LCg.lst ys), (c, oc), (S, o)] → LCg.Off3 I C D [(c, oc), (S, o)] → ((@Ne Nat I C) ∧ (@Ne Nat I D) ∧ (@Ne Nat C D)) →
      wpAny (model prog w) A (eval elt (compEnvC scope cl C env)) (LCg.CompEnd h₀ L m { s with heap := h, toks := tk } I oI C oC D (LCg.lst ys) (fun _ => True) (ShortEl c S oc)) E' { s with heap := h, toks := tk })
    (fin : ∀ ys o, Src o → ys.length = n → (∀ y ∈ ys, Short y) → Fin ys [(c, oc), (S, o)]) :
    LCg.CompRest prog w A h₀ L m env elt x scope cl s (fun _ => True) (fun i v => ∃ t, v = .int (a + (i : Int)) t) Fin n 0 [] [(c, oc), (S, o)] := by
  have key : ∀ (j i : Nat) (ys : List Value) (o : Obj), i + j = n → Src o → ys.length = i → (∀ y ∈ ys, Short y) → LCg.CompRest prog w A h₀ L m env elt x scope cl s (fun _ => True) (fun i v => ∃ t, v = .int (a + (i : Int)) t) Fin j i ys [(c, oc), (S, o)] := by
    intro j
    induction j with
    | zero =>
      intro i ys o hi ho hl hy
      exact LCg.CompRest.zero (fin ys o ho (by omega) hy)
    | succ j ih =>
      intro i ys o hi ho hl hy
      refine LCg.CompRest.succ ?_
      rintro v I oI C oC D m₂ h tk E' ⟨t, rfl⟩ hC hx F N off ne
      refine wpAny_mono (turn o _ t I oI C oC D m₂ ys h tk E' ho hC hx F N off ne) (fun y s₂ hq => ?_) fun _ _ e => e
      obtain ⟨h', tk', nw, e, F', N', off', hS, o', hm1, hm2, ho', hy'⟩ := hq
      have hsub : ∀ p ∈ [(c, oc), (S, o')], p ∈ nw := fun p hp => by
        rcases List.mem_cons.mp hp with rfl | hp
        · exact hm1
        · rw [List.mem_singleton.mp hp]; exact hm2
      refine ⟨h', tk', [(c, oc), (S, o')], e, F', fun p hp => ?_, LCg.Off3.of fun p hp => off'.mem p (hsub p hp), trivial, ih (i + 1) _ o' (by omega) ho' (by simp [hl]) ?_⟩
      · rcases List.mem_cons.mp hp with rfl | hp
        · exact N' _ (.head _)
        · rcases List.mem_cons.mp hp with rfl | hp
          · exact N' _ (.tail _ (.head _))
          · rcases List.mem_cons.mp hp with rfl | hp
            · exact N' _ (.tail _ (.tail _ (.head _)))
            · exact N' _ (.tail _ (.tail _ (.tail _ (hsub p hp))))
      intro z hz
      rcases List.mem_append.mp hz with hz | hz
      · exact hy z hz
      · rw [List.mem_singleton.mp hz]; exact hy'
  exact key n 0 [] o (by omega) ho rfl (fun _ h => nomatch h)
local macro_rules | `(tactic| walk_at "CompSrc") => `(tactic| (k_here; k_dflt (refine LCg.CompSrc.range (by rfl) (by k_asm) (by k_asm) (by assumption) (by exact small_one (by omega) (by omega) (by omega) (by omega)) (by exact rangeSize_nat _ _) (by rw [PySem.sizeLine_eq]; omega) ?_; intro g'; (refine' text_rest (by assumption) (fun o' k' t' I' oI' C' oC' D' m' ys' h' tk' E' ho' hC' hx' F' N' off' ne' => ?_) ?_); (all_goals (try (simp only [LCg.Off3, and_true] at off'))))))
theorem short_menu {v : Value} {t1 t2 t3 t4 t5 : Tok} (h : v ∈ [Value.str (Str.ofString "a") t1, .str (Str.ofString "b") t2, .str (Str.ofString "ab") t3, .str (Str.ofString "-") t4, .str (Str.ofString "ba") t5]) : Short v := by
  simp only [List.mem_cons, List.not_mem_nil, or_false] at h
  rcases h with rfl | rfl | rfl | rfl | rfl <;> exact ⟨_, _, rfl, by decide⟩
local macro_rules | `(tactic| walk_at "ShortEl") => `(tactic| (exact ⟨_, by k_mem, by k_mem, by assumption, short_menu (by assumption)⟩))
theorem shorts : ∀ {ys : List Value}, (∀ y ∈ ys, Short y) → ∃ xs : List Str, StrsAre ys xs ∧ (xs.map (·.length)).sum ≤ 2 * ys.length ∧ xs.length = ys.length
  | [], _ => ⟨[], .nil, by decide, rfl⟩
  | y :: r, h => by
    obtain ⟨xs, h1, h2, h3⟩ := shorts (ys := r) fun z hz => h z (.tail _ hz)
    obtain ⟨x, t, rfl, hx⟩ := h y (.head _)
    exact ⟨x :: xs, .cons x t h1, by simp only [List.map_cons, List.sum_cons, List.length_cons]; omega, by simp [h3]⟩
theorem len_join0 (xs : List Str) : (PySem.Txt.join (PySem.Str.ofString "") xs).length = (xs.map (·.length)).sum := by
  show (Builtin.Str.glued (PySem.Str.ofString "") xs).length = _
  rw [StrLaws.glued_eq_join]
  cases xs with
  | nil => rfl
  | cons a r =>
    have z : (PySem.Str.ofString "").length = 0 := by decide
    rw [len_join_cons, z]
    simp
theorem join_short {prog : Program} {w : World} {A : Around} {E : Value → Shared → Prop} {s : Shared} {t : Tok} {Q : Value → Shared → Prop} {D : Addr} {ys : List Value} {n : Nat} {h₀ : Heap} {L : Addr} {news : List (Addr × Obj)} (N : News h₀ L s.heap news) (hm : (D, LCg.lst ys) ∈ news) (hs : ∀ y ∈ ys, Short y) (hl : ys.length = n) (hn : n ≤ 6)
    (h : ∀ x t' k, x.length ≤ 12 → Q (.str x t') { s with toks := k }) : wpAny (model prog w) A (call (.builtin "str.join") [.str (PySem.Str.ofString "") t, .ref D]) Q E s := by
  obtain ⟨xs, h1, h2, h3⟩ := shorts hs
  have z : (PySem.Str.ofString "").length = 0 := by decide
  refine join_list (N.isList hm) (by simpa using h1) (by rw [z]; omega) fun t' k => h _ t' k ?_
  rw [len_join0]
  omega
local macro_rules | `(tactic| walk_at "call builtin:str.join") => `(tactic| (k_here; k_dflt (refine' join_short ?k1 ?k2 ?k3 ?k4 ?k5 ?_; (case k1 => k_asm); (case k2 => k_mem); (case k3 => assumption); (case k4 => assumption); (case k5 => omega); k_whole; intro x' t' k' hx')))
set_option maxHeartbeats 4000000
theorem text_ok (w : World) (mean mg mb) (S : Addr) (o : Obj) (most : Int) (tk : Tok) (ho : Src o) (h0 : 0 < most) (h1 : most ≤ 7) :
    Does w mean mg mb 375 [.ref S, .int most tk] [(S, o)] 3 24 (SrcPost S [] fun v => ∃ x t, v = .str x t ∧ x.length ≤ 12) := by
  unfold Does
  w_top off
  k_fill
  intro dp un gd cn cs a ccd cl outer A₀ base h₀ L m s Q E B F X N T hk hdp hun hret
  refine wpAny_call ?_
  k_dflt (walk_at "MINE my_enterC")
  k_steps
  all_goals intro hst
  exact hret _ _ _ _ ⟨_, rfl, by assumption, _, _, rfl, by assumption⟩ (by assumption) (by rename News h₀ L _ _ => kN; exact fun p hp => kN p (.tail _ (.tail _ hp))) hst
end
/- part B0 -/
def QSay (q : Nat → Nat → Bool) : Prop := q = q
def PSay (q : Nat → Bool) : Prop := q = q
/-- the places below `i` that `q` takes -/
noncomputable def upTo (q : Nat → Bool) : Nat → List Int
  | 0 => []
  | i + 1 => if q i = true then upTo q i ++ [(i : Int)] else upTo q i
theorem upTo_len (q : Nat → Bool) : ∀ i, (upTo q i).length ≤ i
  | 0 => Nat.le_refl _
  | i + 1 => by
    have := upTo_len q i
    unfold upTo
    split
    · rw [List.length_append, List.length_singleton]; omega
    · omega
def PlLed (l cP cM cT : Addr) (its : List Value) (k : Nat) (oP oM oT : Obj) : List (Addr × Obj) := [(l, PySem.W.listOf its.toArray k), (cP, oP), (cM, oM), (cT, oT)]
def PlEnd (h₀ : Heap) (L : Addr) (m₀ : Str → Option Value) (l cP cM cT : Addr) (oM oT : Obj) (I : Addr) (oI : Obj) (fs : List Int) (s₁ : Shared) (f : Flow) (s₂ : Shared) : Prop :=
  f = .next ∧ ∃ h' tk' its' k' oP', s₂ = { s₁ with heap := h', toks := tk' } ∧ Fr h₀ L h' m₀ ∧ News h₀ L h' [(l, PySem.W.listOf its'.toArray k'), (cP, oP'), (cM, oM), (cT, oT), (I, oI)] ∧ (∃ v, oP'.data = .cell v) ∧ IntsAre its' fs
section
variable {prog : Program} {w : World} {A : Around} {E : Value → Shared → Prop} {s : Shared} {h₀ : Heap} {L a : Addr} {cn : Str} {cs : Scope} {ccd : Value} {cl : List (Str × Addr)}
theorem cells_for {px : Pos} {body : List Stmt} {Q : Flow → Shared → Prop} {x : Str} {r l cP cM cT : Addr} {b₀ : Int} {t₀ u₀ v₀ : Tok} {n k₀ : Nat} {m₀ : Str → Option Value} {oP oM oT : Obj} {q : Nat → Bool} (_hq : PSay q)
    (hh : A.handled = none) (hr : IsRange s.heap r 0 b₀ 1 t₀ u₀ v₀) (hsmall : Builtin.Range.small 0 b₀ 1 = true) (hn : Builtin.Range.rangeSize 0 b₀ 1 = (n : Int))
    (F : Fr h₀ L s.heap m₀) (N : News h₀ L s.heap [(l, PySem.W.listOf #[] k₀), (cP, oP), (cM, oM), (cT, oT)]) (hP : ∃ v, oP.data = .cell v)
    (hcs : cs.kind = .function) (hx : (envX cn cs L a ccd cl).kindOf x = some .cell) (hc : cl.lookup x = some cP) (ne1 : l ≠ cP) (ne2 : cM ≠ cP) (ne3 : cT ≠ cP)
    (turn : ∀ (i : Nat) t its fs k oP' I oI (s₁ : Shared), i < n → IntsAre its fs → its.length ≤ i → oP'.data = .cell (some (.int (i : Int) t)) → ((@LT.lt Nat _ l I) ∧ (@LT.lt Nat _ cP I) ∧ (@LT.lt Nat _ cM I) ∧ (@LT.lt Nat _ cT I)) → Fr h₀ L s₁.heap m₀ →
      News h₀ L s₁.heap [(l, PySem.W.listOf its.toArray k), (cP, oP'), (cM, oM), (cT, oT), (I, oI)] →
      wpAny (model prog w) A (execs body (envX cn cs L a ccd cl)) (PlEnd h₀ L m₀ l cP cM cT oM oT I oI (if q i = true then fs ++ [(i : Int)] else fs) s₁) E s₁)
    (done : ∀ its k oP' h tk, IntsAre its (upTo q n) → Fr h₀ L h m₀ → News h₀ L h [(l, PySem.W.listOf its.toArray k), (cP, oP'), (cM, oM), (cT, oT)] → Q .next { s with heap := h, toks := tk }) :
    wpAny (model prog w) A (pyIter (.ref r)) (fun it s₂ => LoopAtT prog w A h₀ (envX cn cs L a ccd cl) (.Name x px) body Q E it s₂) E s := by
  refine wpAny_pyIter_range hr hsmall ?_
  have Wk : Walks prog w A s.heap.objs.size [s.heap.objs.size] [s.heap.objs.size] n (fun i v => ∃ t, v = .int (0 + i * 1) t)
      (fun i h => IsRangeIter h s.heap.objs.size (0 + (i : Nat) * 1) ((n : Int) - (i : Nat)) 1) := Walks.range hh _ 0 1 n
  have low : ∀ p ∈ [(l, PySem.W.listOf #[] k₀), (cP, oP), (cM, oM), (cT, oT)], p.1 < s.heap.objs.size := fun p hp => Heap.lt_size (N p hp).1
  have l1 : l < s.heap.objs.size := low _ (.head _)
  have l2 : cP < s.heap.objs.size := low _ (.tail _ (.head _))
  have l3 : cM < s.heap.objs.size := low _ (.tail _ (.tail _ (.head _)))
  have l4 : cT < s.heap.objs.size := low _ (.tail _ (.tail _ (.tail _ (.head _))))
  have offI : ∀ (its : List Value) (k : Nat) (oP' : Obj), ∀ p ∈ [(l, PySem.W.listOf its.toArray k), (cP, oP'), (cM, oM), (cT, oT)], p.1 ∉ [s.heap.objs.size] := fun its k oP' p hp => by
    simp only [List.mem_cons, List.not_mem_nil, or_false] at hp ⊢
    rcases hp with rfl | rfl | rfl | rfl <;> first | exact Nat.ne_of_lt l1 | exact Nat.ne_of_lt l2 | exact Nat.ne_of_lt l3 | exact Nat.ne_of_lt l4
  refine ⟨s.heap.objs.size, _, _, n, _, _, m₀, [(l, PySem.W.listOf #[] k₀), (cP, oP), (cM, oM), (cT, oT)],
    (fun i m nx => ∃ its k oP', m = m₀ ∧ nx = [(l, PySem.W.listOf its.toArray k), (cP, oP'), (cM, oM), (cT, oT)] ∧ (∃ v, oP'.data = .cell v) ∧ IntsAre its (upTo q i)), rfl, Wk, ?_, ?_, offI [] k₀ oP, ?_, F.push _, N.grown (fun _ _ e => Heap.get?_push_of_some _ e), ?_, ⟨[], k₀, oP, rfl, rfl, hP, .nil⟩, ?_, ?_⟩
  · intro hm
    exact absurd F.ns.lt ((List.mem_singleton.mp hm) ▸ Nat.lt_irrefl _)
  · intro b hb
    rw [List.mem_singleton.mp hb]
    exact next_is_new F
  · show IsRangeIter _ _ _ _ _
    rw [hn]
    simpa using Heap.get?_push_size _ rfl
  · intro i s' v Q' st hQ'
    exact wpAny_pure hQ'
  · rintro i v m₁ news₁ s₁ own hi ⟨t, rfl⟩ ⟨its, k, oP', rfl, rfl, hP', hI⟩ hoff hsub hget hmem st F₁ N₁
    have e1 : (0 : Int) + (i : Int) * 1 = (i : Int) := by omega
    rw [e1]
    have hI₀ : h₀.get? s.heap.objs.size = none := next_is_new F
    have hIL : s.heap.objs.size ≠ L := Nat.ne_of_gt F.ns.lt
    obtain ⟨oI, hoI⟩ : ∃ oI, s₁.heap.get? s.heap.objs.size = some oI := ⟨_, st⟩
    have N₂ : News h₀ L s₁.heap [(l, PySem.W.listOf its.toArray k), (cP, oP'), (cM, oM), (cT, oT), (s.heap.objs.size, oI)] := fun p hp => by
      rcases List.mem_append.mp (show p ∈ [(l, PySem.W.listOf its.toArray k), (cP, oP'), (cM, oM), (cT, oT)] ++ [(s.heap.objs.size, oI)] from hp) with hp | hp
      · exact N₁ p (List.mem_append_right _ hp)
      · rw [List.mem_singleton.mp hp]; exact ⟨hoI, hIL, hI₀⟩
    have U : UpdF cP oP' [(l, PySem.W.listOf its.toArray k), (cP, oP'), (cM, oM), (cT, oT), (s.heap.objs.size, oI)] (fun o' => [(l, PySem.W.listOf its.toArray k), (cP, o'), (cM, oM), (cT, oT), (s.heap.objs.size, oI)]) := by
      refine .tail ne1 (.head fun p hp => ?_)
      simp only [List.mem_cons, List.not_mem_nil, or_false] at hp
      rcases hp with rfl | rfl | rfl
      · exact ne2
      · exact ne3
      · exact Nat.ne_of_gt l2
    obtain ⟨vP, hvP⟩ := hP'
    refine wpAny_assign_Name (storeX_C F₁ N₂ hc U hvP (fun h' o' F' N' d' => ?_) hcs hx)
    have hlen : its.length ≤ i := by rw [hI.length]; exact upTo_len q i
    refine wpAny_mono (turn i t its _ k o' s.heap.objs.size oI _ hi hI hlen d' ⟨l1, l2, l3, l4⟩ F' N') (fun f s₃ h₃ => ?_) fun _ _ e => e
    obtain ⟨rfl, h₃', tk₃, its', k', oP'', rfl, F₃, N₃, hP₃, hI₃⟩ := h₃
    refine ⟨rfl, h₃', tk₃, m₁, _, rfl, F₃, fun p hp => ?_, offI its' k' oP'', its', k', oP'', rfl, rfl, hP₃, hI₃⟩
    rcases List.mem_append.mp hp with hp | hp
    · have ep : p.1 = s.heap.objs.size := List.mem_singleton.mp (hsub p hp)
      have e2 := hget p hp
      rw [ep, hoI] at e2
      have : p = (s.heap.objs.size, oI) := Prod.ext ep (Option.some.inj e2).symm
      rw [this]
      exact N₃ _ (.tail _ (.tail _ (.tail _ (.tail _ (.head _)))))
    · exact N₃ p (by
        simp only [List.mem_cons, List.not_mem_nil, or_false] at hp ⊢
        rcases hp with rfl | rfl | rfl | rfl <;> simp)
  · rintro h' tk m' news' F' N' hoff ⟨its, k, oP', rfl, rfl, hP', hI⟩
    exact done its k oP' h' tk hI F' N'
end
def MyEl (news : List (Addr × Obj)) (k : Nat) (b : Bool) (y : Value) (news' : List (Addr × Obj)) : Prop := (∀ p ∈ news, p ∈ news') ∧ b = true ∧ ∃ t, y = .int (k : Int) t
def MyNo (news : List (Addr × Obj)) (b : Bool) (news' : List (Addr × Obj)) : Prop := (∀ p ∈ news, p ∈ news') ∧ b = false
section
variable {prog : Program} {w : World} {A : Around} {h₀ : Heap} {L : Addr} {m : Str → Option Value} {env : Env} {ct elt : PySem.Expr} {x : Str} {scope : Scope} {cl : List (Str × Addr)} {s : Shared} {Fin : List Value → List (Addr × Obj) → Prop} {news : List (Addr × Obj)}
theorem shrink {I C D : Addr} {oI oC : Obj} {ys : List Value} {h' : Heap} {nw : List (Addr × Obj)} (N' : News h₀ L h' ((I, oI) :: (C, oC) :: (D, LCg.lst ys) :: nw)) (hs : ∀ p ∈ news, p ∈ nw) : News h₀ L h' ((I, oI) :: (C, oC) :: (D, LCg.lst ys) :: news) := fun p hp => by
  rcases List.mem_cons.mp hp with rfl | hp
  · exact N' _ (.head _)
  · rcases List.mem_cons.mp hp with rfl | hp
    · exact N' _ (.tail _ (.head _))
    · rcases List.mem_cons.mp hp with rfl | hp
      · exact N' _ (.tail _ (.tail _ (.head _)))
      · exact N' _ (.tail _ (.tail _ (.tail _ (hs p hp))))
theorem marks_rest {n : Nat} {q' : Nat → Nat → Bool} (_hq : QSay q') {i₀ : Nat} {oP : Obj} {tP : Tok} (_hP : oP.data = .cell (some (.int (i₀ : Int) tP))) {q : Nat → Bool} (_hqq : q = q' i₀)
    (turn : ∀ (k : Nat) t I oI C oC D m₂ ys h tk (E' : Value → Shared → Prop), k < n → LCg.NsObj oC m₂ → m₂ x = some (.int (k : Int) t) → Fr h₀ L h m → News h₀ L h ((I, oI) :: (C, oC) :: (D, LCg.lst ys) :: news) → LCg.Off3 I C D news → ((@Ne Nat I C) ∧ (@Ne Nat I D) ∧ (@Ne Nat C D)) →
      wpAny (model prog w) A (isTrue ct (compEnvC scope cl C env) (eval ct (compEnvC scope cl C env))) (fun b s' => if b = true then wpAny (model prog w) A (eval elt (compEnvC scope cl C env)) (LCg.CompEnd h₀ L m { s with heap := h, toks := tk } I oI C oC D (LCg.lst ys) (fun _ => True) (fun y news' => MyEl news k (q k) y news')) E' s'
        else LCg.CompEnd h₀ L m { s with heap := h, toks := tk } I oI C oC D (LCg.lst ys) (fun _ => True) (fun _ news' => MyNo news (q k) news') Value.none s') E' { s with heap := h, toks := tk })
    (fin : ∀ ys l, IntsAre ys l → (l = [] ↔ ∀ k < n, q k = false) → Fin ys news) : LCt.CompRestT prog w A h₀ L m env ct elt x scope cl s (fun _ => True) (fun i v => ∃ t, v = .int (0 + (i : Int)) t) Fin n 0 [] news := by
  have key : ∀ (j i : Nat) (ys : List Value) (l : List Int), i + j = n → IntsAre ys l → (l = [] ↔ ∀ k < i, q k = false) → LCt.CompRestT prog w A h₀ L m env ct elt x scope cl s (fun _ => True) (fun i v => ∃ t, v = .int (0 + (i : Int)) t) Fin j i ys news := by
    intro j
    induction j with
    | zero =>
      intro i ys l hi hy hl
      have e : i = n := by omega
      subst e
      exact LCt.CompRestT.zero (fin ys l hy hl)
    | succ j ih =>
      intro i ys l hi hy hl
      refine LCt.CompRestT.succ ?_
      rintro v I oI C oC D m₂ h tk E' ⟨t, rfl⟩ hC hx F N off ne
      have e0 : (0 : Int) + (i : Int) = (i : Int) := by omega
      rw [e0] at hx
      refine wpAny_mono (turn i t I oI C oC D m₂ ys h tk E' (by omega) hC hx F N off ne) (fun b s₂ hq => ?_) fun _ _ e => e
      cases b with
      | true =>
        simp only [if_true] at hq ⊢
        refine wpAny_mono hq (fun y s₃ hr => ?_) fun _ _ e => e
        obtain ⟨h', tk', nw, e, F', N', off', hS, hn, hqi, t', rfl⟩ := hr
        refine ⟨h', tk', news, e, F', shrink N' hn, LCg.Off3.of fun p hp => off'.mem p (hn p hp), trivial, ?_⟩
        refine ih (i + 1) _ (l ++ [(i : Int)]) (by omega) (IntsAre.append hy (.cons _ t' .nil)) ⟨fun e => absurd e (by simp), fun e => ?_⟩
        rw [e i (Nat.lt_succ_self _)] at hqi
        cases hqi
      | false =>
        simp only [Bool.false_eq_true, if_false] at hq ⊢
        obtain ⟨h', tk', nw, e, F', N', off', hS, hn, hqi⟩ := hq
        refine ⟨h', tk', news, e, F', shrink N' hn, LCg.Off3.of fun p hp => off'.mem p (hn p hp), trivial, ih (i + 1) _ l (by omega) hy ⟨fun e k hk => ?_, fun e => hl.mpr fun k hk => e k (by omega)⟩⟩
        rcases Nat.lt_succ_iff_lt_or_eq.mp hk with hk | rfl
        · exact hl.mp e k hk
        · exact hqi
  exact key n 0 [] [] (by omega) .nil ⟨fun _ k hk => absurd hk (Nat.not_lt_zero _), fun _ => rfl⟩
end
/- part B1 -/
section
local macro_rules | `(tactic| walk_at "exec For Name Call cons nil") => `(tactic| (k_here; (rename Fr _ _ _ _ => lF'); (with_unfolding_all refine' For_invTF lF' ?_ ?k1; (case k1 => (intro _; exact rfl)); k_whole)))
local macro_rules | `(tactic| walk_at "pyIter ref") => `(tactic| (k_here; (with_reducible show wpAny _ _ (pyIter (Value.ref _)) (fun it s₂ => LoopAtT _ _ _ _ _ _ _ _ _ it s₂) _ _); k_dflt (refine' cells_for ?k0 ?k1 ?k2 ?k3 ?k4 ?k5 ?k6 ?k7 ?k8 ?k9 ?k10 ?k11 ?k12 ?k13 (fun i' t' its' fs' k' oP' I' oI' s' hi' hI' hL' hP' hl' F' N' => ?_) (fun its' k' oP' h' tk' hI' F' N' => ?_); (case k0 => assumption); (case k1 => exact rfl); (case k2 => assumption); (case k3 => exact small_one (by omega) (by omega) (by omega) (by omega)); (case k4 => exact rangeSize_nat _ _); (case k5 => k_asm); (case k6 => k_asm); (case k7 => exact ⟨_, by assumption⟩); (case k8 => exact rfl); (case k9 => exact rfl); (case k10 => exact rfl); (case k11 => k_ne); (case k12 => k_ne); (case k13 => k_ne); (all_goals (try k_fold)))))
local macro_rules | `(tactic| walk_at "CompSrcT") => `(tactic| (k_here; k_dflt (refine LCt.CompSrcT.range (by rfl) (by k_asm) (by k_asm) (by assumption) (by exact small_one (by omega) (by omega) (by omega) (by omega)) (by exact rangeSize_nat _ _) (by rw [PySem.sizeLine_eq]; omega) ?_; intro g'; (refine' marks_rest (by assumption) (by assumption) rfl (fun k' t' I' oI' C' oC' D' m' ys' h' tk' E' hk' hC' hx' F' N' off' ne' => ?_) (fun ys' l' hI' hl' => ?_)); (all_goals (try (simp only [LCg.Off3, and_true] at off'))))))
local macro_rules | `(tactic| walk_at "call builtin:list.append") => `(tactic| (k_here; k_dflt (refine' append_K ?k1 ?k2 ?k3 ?_ ?z; (case k1 => k_asm); (case k2 => k_asm); (case k3 => k_upd); (case z => (rw [List.size_toArray, PySem.sizeLine_eq]; omega)); k_whole); intro h' F' N'))
def Mark (x y : Str) (i k : Nat) : Bool := (Txt.item x ((i : Int) + (k : Int)) != Txt.item y (k : Int))
def Place (x y : Str) (i : Nat) : Bool := (List.range y.length).all fun k => !Mark x y i k
local macro_rules | `(tactic| walk_at "MyEl") => `(tactic| exact ⟨fun _ h => h, by assumption, _, rfl⟩)
local macro_rules | `(tactic| walk_at "MyNo") => `(tactic| exact ⟨fun _ h => h, by assumption⟩)
theorem place_iff {x y : Str} {i : Nat} : Place x y i = true ↔ ∀ k < y.length, Mark x y i k = false := by
  unfold Place
  simp [List.all_eq_true]
section
variable {h₀ h' : Heap} {L l cP cM cT I : Addr} {m₀ : Str → Option Value} {oP oM oT oI : Obj} {s₁ : Shared} {x y : Str} {i : Nat} {ll fs : List Int} {its : List Value} {k tk : Nat} {nw : List (Addr × Obj)} {v : Option Value} {t : Tok}
theorem plEnd_yes (hd : decide (ll = []) = true) (hl : ll = [] ↔ ∀ k < ((y.length : Int) - 0).toNat, Mark x y i k = false) (F : Fr h₀ L h' m₀) (N : News h₀ L h' nw)
    (m1 : (l, PySem.W.listOf (its.toArray.push (.int (i : Int) t)) k) ∈ nw) (m2 : (cP, oP) ∈ nw) (m3 : (cM, oM) ∈ nw) (m4 : (cT, oT) ∈ nw) (m5 : (I, oI) ∈ nw) (hP : oP.data = .cell v) (hI : IntsAre its fs) :
    PlEnd h₀ L m₀ l cP cM cT oM oT I oI (if Place x y i = true then fs ++ [(i : Int)] else fs) s₁ .next { s₁ with heap := h', toks := tk } := by
  have e : Place x y i = true := place_iff.mpr fun k hk => hl.mp (of_decide_eq_true hd) k (by omega)
  rw [e]
  rw [List.push_toArray] at m1
  refine ⟨rfl, h', tk, its ++ [.int (i : Int) t], k, oP, rfl, F, fun p hp => ?_, ⟨v, hP⟩, IntsAre.append hI (.cons _ t .nil)⟩
  simp only [List.mem_cons, List.not_mem_nil, or_false] at hp
  rcases hp with rfl | rfl | rfl | rfl | rfl
  · exact N _ m1
  · exact N _ m2
  · exact N _ m3
  · exact N _ m4
  · exact N _ m5
theorem plEnd_no (hd : decide (ll = []) = false) (hl : ll = [] ↔ ∀ k < ((y.length : Int) - 0).toNat, Mark x y i k = false) (F : Fr h₀ L h' m₀) (N : News h₀ L h' nw)
    (m1 : (l, PySem.W.listOf its.toArray k) ∈ nw) (m2 : (cP, oP) ∈ nw) (m3 : (cM, oM) ∈ nw) (m4 : (cT, oT) ∈ nw) (m5 : (I, oI) ∈ nw) (hP : oP.data = .cell v) (hI : IntsAre its fs) :
    PlEnd h₀ L m₀ l cP cM cT oM oT I oI (if Place x y i = true then fs ++ [(i : Int)] else fs) s₁ .next { s₁ with heap := h', toks := tk } := by
  have e : ¬ Place x y i = true := fun h => of_decide_eq_false hd (hl.mpr fun k hk => place_iff.mp h k (by omega))
  rw [if_neg e]
  refine ⟨rfl, h', tk, its, k, oP, rfl, F, fun p hp => ?_, ⟨v, hP⟩, hI⟩
  simp only [List.mem_cons, List.not_mem_nil, or_false] at hp
  rcases hp with rfl | rfl | rfl | rfl | rfl
  · exact N _ m1
  · exact N _ m2
  · exact N _ m3
  · exact N _ m4
  · exact N _ m5
end
local macro_rules | `(tactic| walk_at "PlEnd") => `(tactic| (k_here; k_dflt (first
  | exact plEnd_yes (by assumption) (by assumption) (by k_asm) (by k_asm) (by k_mem) (by k_mem) (by k_mem) (by k_mem) (by k_mem) (by assumption) (by assumption)
  | exact plEnd_no (by assumption) (by assumption) (by k_asm) (by k_asm) (by k_mem) (by k_mem) (by k_mem) (by k_mem) (by k_mem) (by assumption) (by assumption))))
/-- how many places a mark may stand at -/
def room (x y : Str) : Nat := ((x.length : Int) - (y.length : Int) + 1 - 0).toNat
/-- what the places' def makes -/
def PlacesAre (x y : Str) (v : Value) (l : Addr) (o : Obj) : Prop := v = .ref l ∧ ∃ its k, o = PySem.W.listOf its.toArray k ∧ IntsAre its (upTo (Place x y) (room x y))
theorem fresh_of {h g h' : Heap} {L l : Addr} {o : Obj} {ns : List (Addr × Obj)} (SG : Stay [] h g) (N : News g L h' ((l, o) :: ns)) : h.get? l = none := by
  cases e : h.get? l with
  | none => rfl
  | some o' =>
    have h1 := (N _ (.head _)).2.2
    rw [SG _ _ e (fun h => nomatch h)] at h1
    cases h1
set_option maxHeartbeats 4000000
theorem places_ok (w : World) (mean mg mb) (x y : Str) (tx ty : Tok) (hx : x.length ≤ 100) (hy : y.length ≤ 100) :
    Does w mean mg mb 380 [.str x tx, .str y ty] [] 3 200 (NewPost (PlacesAre x y)) := by
  unfold Does
  w_top off
  k_fill
  intro dp un gd cn cs a ccd cl outer A₀ base h₀ L m s Q E B F X N T hk hdp hun hret
  have hq1 : PSay (Place x y) := rfl
  have hq2 : QSay (Mark x y) := rfl
  refine wpAny_call ?_
  k_dflt (walk_at "MINE my_enterC")
  k_steps
  rename Stay _ _ _ => SG
  intro hst
  rename News h₀ L _ _ => kN
  exact hret _ _ _ _ ⟨_, _, rfl, fresh_of SG (by assumption), rfl, _, _, rfl, by assumption⟩ (by assumption) (fun p hp => by rw [List.mem_singleton.mp hp]; exact kN _ (.head _)) hst
end
/- part P1 -/
theorem upTo_cases (q : Nat → Bool) : ∀ n, (upTo q n = [] ∧ ∀ i < n, q i = false) ∨ ∃ (p : Nat) (rest : List Int), upTo q n = (p : Int) :: rest ∧ p < n ∧ q p = true ∧ ∀ k < p, q k = false
  | 0 => .inl ⟨rfl, fun i h => absurd h (Nat.not_lt_zero _)⟩
  | n + 1 => by
    rcases upTo_cases q n with ⟨h0, hn⟩ | ⟨p, rest, h0, hp, hq, hn⟩
    · cases e : q n with
      | true => exact .inr ⟨n, [], by unfold upTo; rw [if_pos e, h0]; rfl, Nat.lt_succ_self _, e, hn⟩
      | false =>
        refine .inl ⟨by unfold upTo; rw [if_neg (by rw [e]; decide), h0], fun i hi => ?_⟩
        rcases Nat.lt_succ_iff_lt_or_eq.mp hi with hi | rfl
        · exact hn i hi
        · exact e
    · cases e : q n with
      | true => exact .inr ⟨p, rest ++ [(n : Int)], by unfold upTo; rw [if_pos e, h0]; rfl, by omega, hq, hn⟩
      | false => exact .inr ⟨p, rest, by unfold upTo; rw [if_neg (by rw [e]; decide), h0], by omega, hq, hn⟩
theorem item_nat {x : Str} {i : Nat} (h : i < x.length) : ∃ c, x.cps.toList[i]? = some c ∧ Txt.item x (i : Int) = ⟨#[c]⟩ := by
  have hs : i < x.cps.size := h
  refine ⟨x.cps[i], by simp [hs], ?_⟩
  unfold Txt.item Txt.charAt seqIndex?
  have h1 : ¬ ((i : Int) < 0) := by omega
  have h2 : (i : Int) < (x.length : Int) := by omega
  simp [h1, h2, hs]
theorem mark_eq {x y : Str} {i k : Nat} (h : i + y.length ≤ x.length) (hk : k < y.length) : Mark x y i k = false ↔ x.cps.toList[i + k]? = y.cps.toList[k]? := by
  obtain ⟨c, h1, h2⟩ := item_nat (x := x) (i := i + k) (by omega)
  obtain ⟨d, h3, h4⟩ := item_nat (x := y) (i := k) hk
  have e : ((i : Int) + (k : Int)) = ((i + k : Nat) : Int) := by omega
  unfold Mark
  rw [e, h2, h4, h1, h3]
  simp
theorem place_sub {x y : Str} {i : Nat} (h : i + y.length ≤ x.length) : Place x y i = true ↔ Builtin.Str.subAt x y i = true := by
  have lx : x.cps.toList.length = x.length := Array.length_toList
  have ly : y.cps.toList.length = y.length := Array.length_toList
  rw [place_iff, StrLaws.subAt_eq, beq_iff_eq]
  constructor
  · intro hm
    apply List.ext_getElem?
    intro k
    by_cases hk : k < y.length
    · rw [List.getElem?_take_of_lt hk, List.getElem?_drop]
      exact (mark_eq h hk).mp (hm k hk)
    · rw [List.getElem?_eq_none (by rw [List.length_take]; omega), List.getElem?_eq_none (by omega)]
  · intro e k hk
    rw [mark_eq h hk, ← e, List.getElem?_take_of_lt hk, List.getElem?_drop]
theorem places_find (x y : Str) : (upTo (Place x y) (room x y) = [] ∧ Txt.find x y = -1) ∨ ∃ (p : Nat) (rest : List Int), upTo (Place x y) (room x y) = (p : Int) :: rest ∧ Txt.find x y = (p : Int) ∧ p + y.length ≤ x.length := by
  have rm : ∀ i, i < room x y ↔ i + y.length ≤ x.length := fun i => by unfold room; omega
  rcases upTo_cases (Place x y) (room x y) with ⟨h0, hn⟩ | ⟨p, rest, h0, hp, hq, hn⟩
  · refine .inl ⟨h0, ?_⟩
    rcases find_whole x y with ⟨e, _⟩ | ⟨i, e, hi, _⟩
    · exact e
    · have := hn i ((rm i).mpr hi.1)
      rw [(place_sub hi.1).mpr hi.2] at this
      cases this
  · refine .inr ⟨p, rest, h0, ?_, (rm p).mp hp⟩
    have hpl := (rm p).mp hp
    have hat : StrLaws.At x y x.length p := ⟨hpl, (place_sub hpl).mp hq⟩
    rcases find_whole x y with ⟨e, hno⟩ | ⟨i, e, hi, hno⟩
    · exact absurd hat (hno p)
    · rw [e]
      rcases Nat.lt_trichotomy i p with hlt | rfl | hgt
      · have := hn i hlt
        rw [(place_sub hi.1).mpr hi.2] at this
        cases this
      · rfl
      · exact absurd hat (hno p hgt)
theorem starts_at (x y : Str) : (Txt.slice x none (some (y.length : Int)) == y) = true ↔ StrLaws.At x y x.length 0 := by
  have lx : x.cps.toList.length = x.length := Array.length_toList
  have ly : y.cps.toList.length = y.length := Array.length_toList
  rw [beq_iff_eq]
  unfold StrLaws.At
  rw [StrLaws.subAt_eq, beq_iff_eq]
  by_cases h : y.length ≤ x.length
  · have e : Txt.slice x none (some (y.length : Int)) = ⟨((x.cps.toList.drop 0).take ((y.length : Int) - 0).toNat).toArray⟩ := StrLaws.sliceText_to (x := x) (j := (y.length : Int)) ⟨by omega, by omega⟩
    have e2 : ((y.length : Int) - 0).toNat = y.length := by omega
    rw [e, e2]
    constructor
    · intro h1
      refine ⟨by omega, ?_⟩
      have := congrArg (fun z : Str => z.cps.toList) h1
      simpa using this
    · rintro ⟨_, h1⟩
      rw [h1]
  · constructor
    · intro h1
      have := Txt.slice_le x none (some (y.length : Int))
      rw [h1] at this
      exact absurd this h
    · rintro ⟨h1, _⟩
      omega
theorem starts_none {x y : Str} (h : Txt.find x y = -1) : (Txt.slice x none (some (y.length : Int)) == y) = false := by
  cases e : (Txt.slice x none (some (y.length : Int)) == y) with
  | false => rfl
  | true =>
    have hat := (starts_at x y).mp e
    rcases find_whole x y with ⟨_, hno⟩ | ⟨i, e, _, _⟩
    · exact absurd hat (hno 0)
    · rw [e] at h; omega
theorem starts_some {x y : Str} {p : Nat} (h : Txt.find x y = (p : Int)) : (Txt.slice x none (some (y.length : Int)) == y) = decide ((p : Int) = 0) := by
  rcases find_whole x y with ⟨e, _⟩ | ⟨i, e, hi, hno⟩
  · rw [e] at h; omega
  · have hip : i = p := by rw [e] at h; omega
    subst hip
    by_cases h0 : i = 0
    · subst h0
      rw [(starts_at x y).mpr hi]
      rfl
    · have : ¬ (Txt.slice x none (some (y.length : Int)) == y) = true := fun e => hno 0 (by omega) ((starts_at x y).mp e)
      rw [Bool.not_eq_true] at this
      rw [this, decide_eq_false (by omega)]
theorem slice_nought (x : Str) : Txt.slice x none (some ((0 : Nat) : Int)) = Str.ofString "" := by
  have e : Txt.slice x none (some ((0 : Nat) : Int)) = ⟨((x.cps.toList.drop 0).take (((0 : Nat) : Int) - 0).toNat).toArray⟩ := StrLaws.sliceText_to (x := x) (j := ((0 : Nat) : Int)) ⟨by omega, by omega⟩
  rw [e]
  have : Str.ofString "" = Str.mk #[] := by decide +kernel
  rw [this]
  rfl
/- part B2 -/
section
local macro_rules | `(tactic| walk_at "call ref") => `(tactic| (k_here; refine wpAny_call ?_; k_dflt (walk_at "MINE in_enter")))
set_option maxHeartbeats 4000000
theorem two_a (w : World) (mean mg mb) (x y : Str) (tn tx ty : Tok) (hx : x.length ≤ 100) (hy : y.length ≤ 100) :
    Does w mean mg mb 63 [.str (Str.ofString "starts-with") tn, .str x tx, .str y ty] [] 3 100 (PurePost fun v => v = .bool (Txt.slice x none (some (y.length : Int)) == y)) := by
  unfold Does
  w_top off
  k_fill
  intro dp un gd cn cs a ccd cl outer A₀ base h₀ L m s Q E B F X N T hk hdp hun hret
  refine wpAny_call ?_
  k_dflt (walk_at "MINE my_enter")
  k_steps
  all_goals intro hst
  exact hret _ _ _ _ rfl (by assumption) (by assumption) hst
theorem two_b (w : World) (mean mg mb) (x y : Str) (tn tx ty : Tok) (hx : x.length ≤ 100) (hy : y.length ≤ 100) :
    Does w mean mg mb 63 [.str (Str.ofString "contains") tn, .str x tx, .str y ty] [] 3 100 (PurePost fun v => v = .bool (decide (0 ≤ Txt.find x y))) := by
  unfold Does
  w_top off
  k_fill
  intro dp un gd cn cs a ccd cl outer A₀ base h₀ L m s Q E B F X N T hk hdp hun hret
  refine wpAny_call ?_
  k_dflt (walk_at "MINE my_enter")
  k_steps
  all_goals intro hst
  exact hret _ _ _ _ rfl (by assumption) (by assumption) hst
theorem two_c (w : World) (mean mg mb) (x y : Str) (tn tx ty : Tok) (hx : x.length ≤ 100) (hy : y.length ≤ 100) :
    Does w mean mg mb 63 [.str (Str.ofString "substring-before") tn, .str x tx, .str y ty] [] 3 100 (PurePost fun v => (0 < Txt.find x y ∧ ∃ t, v = .str (Txt.slice x none (some (Txt.find x y))) t) ∨ (¬ 0 < Txt.find x y ∧ ∃ t, v = .str (Str.ofString "") t)) := by
  unfold Does
  w_top off
  k_fill
  intro dp un gd cn cs a ccd cl outer A₀ base h₀ L m s Q E B F X N T hk hdp hun hret
  refine wpAny_call ?_
  k_dflt (walk_at "MINE my_enter")
  k_steps
  all_goals intro hst
  · exact hret _ _ _ _ (.inl ⟨by assumption, _, rfl⟩) (by assumption) (by assumption) hst
  · exact hret _ _ _ _ (.inr ⟨by assumption, _, rfl⟩) (by assumption) (by assumption) hst
theorem two_d (w : World) (mean mg mb) (x y : Str) (tn tx ty : Tok) (hx : x.length ≤ 100) (hy : y.length ≤ 100) :
    Does w mean mg mb 63 [.str (Str.ofString "substring-after") tn, .str x tx, .str y ty] [] 3 100 (PurePost fun v => (0 ≤ Txt.find x y ∧ ∃ t, v = .str (Txt.slice x (some (Txt.find x y + (y.length : Int))) none) t) ∨ (¬ 0 ≤ Txt.find x y ∧ ∃ t, v = .str (Str.ofString "") t)) := by
  unfold Does
  w_top off
  k_fill
  intro dp un gd cn cs a ccd cl outer A₀ base h₀ L m s Q E B F X N T hk hdp hun hret
  refine wpAny_call ?_
  k_dflt (walk_at "MINE my_enter")
  k_steps
  all_goals intro hst
  · exact hret _ _ _ _ (.inl ⟨by assumption, _, rfl⟩) (by assumption) (by assumption) hst
  · exact hret _ _ _ _ (.inr ⟨by assumption, _, rfl⟩) (by assumption) (by assumption) hst
theorem pure_mono {w : World} {mean mg mb} {f : Addr} {vs : List Value} {need units : Nat} {P P' : Value → Prop} (D : Does w mean mg mb f vs [] need units (PurePost P)) (h : ∀ v, P v → P' v) : Does w mean mg mb f vs [] need units (PurePost P') := by
  intro dp un gd cn cs a ccd cl outer A₀ base h₀ L m s Q E B F X N T hk hdp hun hret
  exact D dp un gd cn cs a ccd cl outer A₀ base h₀ L m s Q E B F X N T hk hdp hun (fun v news' h' tk' hp F' N' hst => hret v news' h' tk' (h v hp) F' N' hst)
section
variable (w : World) (mean : ExcName → Option Value) (mg mb : Str → Option Value) (x y : Str) (tn tx ty : Tok)
theorem no_a (hx : x.length ≤ 100) (hy : y.length ≤ 100) (hf : Txt.find x y = -1) : Does w mean mg mb 63 [.str (Str.ofString "starts-with") tn, .str x tx, .str y ty] [] 3 100 (PurePost fun v => v = .bool false) :=
  pure_mono (two_a w mean mg mb x y tn tx ty hx hy) fun v e => by rw [e, starts_none hf]
theorem no_b (hx : x.length ≤ 100) (hy : y.length ≤ 100) (hf : Txt.find x y = -1) : Does w mean mg mb 63 [.str (Str.ofString "contains") tn, .str x tx, .str y ty] [] 3 100 (PurePost fun v => v = .bool false) :=
  pure_mono (two_b w mean mg mb x y tn tx ty hx hy) fun v e => by rw [e, hf]; rfl
theorem no_c (hx : x.length ≤ 100) (hy : y.length ≤ 100) (hf : Txt.find x y = -1) : Does w mean mg mb 63 [.str (Str.ofString "substring-before") tn, .str x tx, .str y ty] [] 3 100 (PurePost fun v => ∃ t, v = .str (Str.ofString "") t) :=
  pure_mono (two_c w mean mg mb x y tn tx ty hx hy) fun v e => by
    rcases e with ⟨h, _⟩ | ⟨_, e⟩
    · rw [hf] at h; omega
    · exact e
theorem no_d (hx : x.length ≤ 100) (hy : y.length ≤ 100) (hf : Txt.find x y = -1) : Does w mean mg mb 63 [.str (Str.ofString "substring-after") tn, .str x tx, .str y ty] [] 3 100 (PurePost fun v => ∃ t, v = .str (Str.ofString "") t) :=
  pure_mono (two_d w mean mg mb x y tn tx ty hx hy) fun v e => by
    rcases e with ⟨h, _⟩ | ⟨_, e⟩
    · rw [hf] at h; omega
    · exact e
theorem so_a (hx : x.length ≤ 100) (hy : y.length ≤ 100) {p : Nat} (hf : Txt.find x y = (p : Int)) : Does w mean mg mb 63 [.str (Str.ofString "starts-with") tn, .str x tx, .str y ty] [] 3 100 (PurePost fun v => v = .bool (decide ((p : Int) = 0))) :=
  pure_mono (two_a w mean mg mb x y tn tx ty hx hy) fun v e => by rw [e, starts_some hf]
theorem so_b (hx : x.length ≤ 100) (hy : y.length ≤ 100) {p : Nat} (hf : Txt.find x y = (p : Int)) : Does w mean mg mb 63 [.str (Str.ofString "contains") tn, .str x tx, .str y ty] [] 3 100 (PurePost fun v => v = .bool true) :=
  pure_mono (two_b w mean mg mb x y tn tx ty hx hy) fun v e => by rw [e, hf, decide_eq_true (by omega)]
theorem so_c (hx : x.length ≤ 100) (hy : y.length ≤ 100) {p : Nat} (hf : Txt.find x y = (p : Int)) : Does w mean mg mb 63 [.str (Str.ofString "substring-before") tn, .str x tx, .str y ty] [] 3 100 (PurePost fun v => ∃ t, v = .str (Txt.slice x none (some (p : Int))) t) :=
  pure_mono (two_c w mean mg mb x y tn tx ty hx hy) fun v e => by
    rcases e with ⟨h, e⟩ | ⟨h, e⟩
    · rw [hf] at e; exact e
    · have : p = 0 := by omega
      subst this
      rw [slice_nought]
      exact e
theorem so_d (hx : x.length ≤ 100) (hy : y.length ≤ 100) {p : Nat} (hf : Txt.find x y = (p : Int)) : Does w mean mg mb 63 [.str (Str.ofString "substring-after") tn, .str x tx, .str y ty] [] 3 100 (PurePost fun v => ∃ t, v = .str (Txt.slice x (some ((p : Int) + (y.length : Int))) none) t) :=
  pure_mono (two_d w mean mg mb x y tn tx ty hx hy) fun v e => by
    rcases e with ⟨h, e⟩ | ⟨h, e⟩
    · rw [hf] at e; exact e
    · omega
end
end
/- part C1 -/
section
variable {w : World} {mean : ExcName → Option Value} {mg mb : Str → Option Value} {news : List (Addr × Obj)} {x y : Str} {tx ty : Tok}
  {dp un : Nat} {gd : Option (List Code)} {cn : Str} {cs : Scope} {a : Addr} {ccd : Value} {cl : List (Str × Addr)} {outer : List Env} {A₀ : Around} {base h₀ : Heap} {L : Addr} {m : Str → Option Value} {s : Shared} {Q E : Value → Shared → Prop}
theorem use_places (hx : x.length ≤ 100) (hy : y.length ≤ 100)
    (B : Below A₀ base outer h₀) (F : Fr h₀ L s.heap m) (X : (hd.heap_39 w.params).In h₀) (N : News h₀ L s.heap news) (T : Top view0 (looseW view0 []) mean mg mb h₀) (hk : cs.kind = .function)
    (hdp : dp + 3 < recursionLimit) (hun : un + 200 < cLine)
    (none : ∀ (l : Addr) (k : Nat) (h' : Heap) (tk' : Nat), Txt.find x y = -1 → LCg.Off1 l news → Fr h₀ L h' m → News h₀ L h' ((l, PySem.W.listOf #[] k) :: news) → Q (.ref l) { s with heap := h', toks := tk' })
    (some : ∀ (l : Addr) (k : Nat) (p : Nat) (t : Tok) (vs : List Value) (rest : List Int) (h' : Heap) (tk' : Nat), Txt.find x y = (p : Int) → p + y.length ≤ x.length → IntsAre vs rest → vs.length ≤ 101 → LCg.Off1 l news → Fr h₀ L h' m → News h₀ L h' ((l, PySem.W.listOf (Value.int (p : Int) t :: vs).toArray k) :: news) → Q (.ref l) { s with heap := h', toks := tk' }) :
    wpAny (model PySem.Challenge.rw_xm0668_01.row.prog w) (ktrTop dp un gd cn cs L a ccd cl outer) (call (.ref 380) [.str x tx, .str y ty]) Q E s := by
  refine use_new (places_ok w mean mg mb x y tx ty hx hy) B F X N T hk hdp hun ?_
  rintro v l o h' tk' ⟨rfl, its, k, rfl, hI⟩ off F' N'
  rcases places_find x y with ⟨e, hf⟩ | ⟨p, rest, e, hf, hp⟩
  · rw [e] at hI
    cases hI
    exact none l k h' tk' hf off F' N'
  · have hlen := upTo_len (Place x y) (room x y)
    rw [e] at hI hlen
    cases hI with
    | cons _ t r => exact some l k p t _ rest h' tk' hf hp r (by rw [r.length]; rw [List.length_cons] at hlen; unfold room at hlen; omega) off F' N'
end
local macro_rules | `(tactic| walk_at "MINE places_use") => `(tactic| (
  (with_reducible show wpAny _ _ (call (Value.ref 380) [Value.str _ _, Value.str _ _]) _ _ _)
  (refine' use_places ?kx ?ky ?k1 ?k2 ?k3 ?k4 ?k5 ?kK ?kd ?ku ?kn ?ks)
  (case kx => first | assumption | omega | fail "use: the text's length")
  (case ky => first | assumption | omega | fail "use: the mark's length")
  (case k1 => first | k_asm | fail "use: the frames below")
  (case k2 => first | k_asm | fail "use: the frame")
  (case k3 => first | k_asm | fail "use: the written part")
  (case k4 => first | k_asm | fail "use: the ledger")
  (case k5 => first | k_asm | fail "use: the top's facts")
  (case kK => first | exact rfl | assumption | fail "use: the caller is no def")
  (case kd => first | ktr_room | fail "use: the frames' room")
  (case ku => first | ktr_units | fail "use: the C units")
  (case' ks => intro l' k' p' t' vs' rest' h' tk' hf' hp' hI' hlen' off' F' N')
  (case' kn => intro l' k' h' tk' hf' off' F' N')
  (all_goals (try simp only [LCg.Off1, and_true] at off'))
  (all_goals (try dsimp only))
  (all_goals (try k_fold))))
local macro_rules | `(tactic| walk_at "MINE pure_tail") => `(tactic| (
  (case k1 => first | k_asm | fail "use: the frames below")
  (case k2 => first | k_asm | fail "use: the frame")
  (case k3 => first | k_asm | fail "use: the written part")
  (case k4 => first | k_asm | fail "use: the ledger")
  (case k5 => first | k_asm | fail "use: the top's facts")
  (case kK => first | exact rfl | assumption | fail "use: the caller is no def")
  (case kd => first | ktr_room | fail "use: the frames' room")
  (case ku => first | ktr_units | fail "use: the C units")))
local macro_rules | `(tactic| walk_at "MINE two_use") => `(tactic| (
  (with_reducible show wpAny _ _ (call (Value.ref 63) [Value.str _ _, Value.str _ _, Value.str _ _]) _ _ _)
  (first
    | (refine' use_pure (no_a _ _ _ _ _ _ _ _ _ (by assumption) (by assumption) (by assumption)) ?k1 ?k2 ?k3 ?k4 ?k5 ?kK ?kd ?ku ?_; (walk_at "MINE pure_tail"); intro v' h' tk' hv' F' N'; subst hv')
    | (refine' use_pure (no_b _ _ _ _ _ _ _ _ _ (by assumption) (by assumption) (by assumption)) ?k1 ?k2 ?k3 ?k4 ?k5 ?kK ?kd ?ku ?_; (walk_at "MINE pure_tail"); intro v' h' tk' hv' F' N'; subst hv')
    | (refine' use_pure (so_a _ _ _ _ _ _ _ _ _ (by assumption) (by assumption) (by assumption)) ?k1 ?k2 ?k3 ?k4 ?k5 ?kK ?kd ?ku ?_; (walk_at "MINE pure_tail"); intro v' h' tk' hv' F' N'; subst hv')
    | (refine' use_pure (so_b _ _ _ _ _ _ _ _ _ (by assumption) (by assumption) (by assumption)) ?k1 ?k2 ?k3 ?k4 ?k5 ?kK ?kd ?ku ?_; (walk_at "MINE pure_tail"); intro v' h' tk' hv' F' N'; subst hv')
    | (refine' use_pure (no_c _ _ _ _ _ _ _ _ _ (by assumption) (by assumption) (by assumption)) ?k1 ?k2 ?k3 ?k4 ?k5 ?kK ?kd ?ku ?_; (walk_at "MINE pure_tail"); intro v' h' tk' hv' F' N'; obtain ⟨t', hv'⟩ := hv'; subst hv')
    | (refine' use_pure (no_d _ _ _ _ _ _ _ _ _ (by assumption) (by assumption) (by assumption)) ?k1 ?k2 ?k3 ?k4 ?k5 ?kK ?kd ?ku ?_; (walk_at "MINE pure_tail"); intro v' h' tk' hv' F' N'; obtain ⟨t', hv'⟩ := hv'; subst hv')
    | (refine' use_pure (so_c _ _ _ _ _ _ _ _ _ (by assumption) (by assumption) (by assumption)) ?k1 ?k2 ?k3 ?k4 ?k5 ?kK ?kd ?ku ?_; (walk_at "MINE pure_tail"); intro v' h' tk' hv' F' N'; obtain ⟨t', hv'⟩ := hv'; subst hv')
    | (refine' use_pure (so_d _ _ _ _ _ _ _ _ _ (by assumption) (by assumption) (by assumption)) ?k1 ?k2 ?k3 ?k4 ?k5 ?kK ?kd ?ku ?_; (walk_at "MINE pure_tail"); intro v' h' tk' hv' F' N'; obtain ⟨t', hv'⟩ := hv'; subst hv'))
  (try dsimp only)
  (try k_fold)))
local macro_rules | `(tactic| walk_at "MINE my_units") => `(tactic| first | ktr_units | fail "the C units")
section
local macro_rules | `(tactic| walk_at "call ref") => `(tactic| (k_here; k_dflt (walk_at "MINE places_use")))
local macro_rules | `(tactic| walk_at "call ref") => `(tactic| (k_here; k_dflt (walk_at "MINE two_use")))
section
variable {prog : Program} {w : World} {A : Around} {E : Value → Shared → Prop} {s : Shared} {h₀ : Heap} {L l D1 D2 : Addr} {m : Str → Option Value} {news : List (Addr × Obj)} {v : Value} {vs : List Value} {Q : Value → Shared → Prop}
theorem pick_one (v : Value) (vs : List Value) : kms_pick (v :: vs).toArray.toList none (some 1) = [v] := by
  unfold kms_pick
  have h1 : kms_lo none (v :: vs).length = 0 := by unfold kms_lo; rfl
  have h2 : kms_hi (some 1) (v :: vs).length = 1 := by unfold kms_hi; simp; try omega
  show (List.drop (kms_lo none (v :: vs).length) (v :: vs)).take (kms_hi (some 1) (v :: vs).length - kms_lo none (v :: vs).length) = [v]
  rw [h1, h2]
  rfl
theorem ne_nil_yes {p : Int} {t : Tok} {rest : List Int} (hl : s.heap.IsList D1 (Value.int p t :: vs).toArray) (hi : IntsAre vs rest) (hb : s.heap.IsList D2 ([] : List Value).toArray) (hu : A.units + 64 < cLine) (h : Q (.bool true) s) : wpAny (model prog w) A (compareOp .NotEq (.ref D1) (.ref D2)) Q E s :=
  ke_ne_ints hl hb (.cons p t hi) .nil hu (by rw [decide_eq_false (by simp)]; exact h)
theorem ne_nil_no (hl : s.heap.IsList D1 ([] : List Value).toArray) (hb : s.heap.IsList D2 ([] : List Value).toArray) (hu : A.units + 64 < cLine) (h : Q (.bool false) s) : wpAny (model prog w) A (compareOp .NotEq (.ref D1) (.ref D2)) Q E s :=
  ke_ne_ints hl hb .nil .nil hu h
theorem eq_nought {p : Int} {t u : Tok} (hl : s.heap.IsList D1 [Value.int p t].toArray) (hb : s.heap.IsList D2 [Value.int 0 u].toArray) (hu : A.units + 64 < cLine) (h : Q (.bool (decide (p = 0))) s) : wpAny (model prog w) A (compareOp .Eq (.ref D1) (.ref D2)) Q E s :=
  ke_eq_ints hl hb (.cons p t .nil) (.cons 0 u .nil) hu (by
    have e : decide ([p] = [(0 : Int)]) = decide (p = 0) := by simp
    rw [e]; exact h)
theorem eq_nought_no {u : Tok} (hl : s.heap.IsList D1 ([] : List Value).toArray) (hb : s.heap.IsList D2 [Value.int 0 u].toArray) (hu : A.units + 64 < cLine) (h : Q (.bool false) s) : wpAny (model prog w) A (compareOp .Eq (.ref D1) (.ref D2)) Q E s :=
  ke_eq_ints hl hb .nil (.cons 0 u .nil) hu h
theorem four_eq {a b : Bool} {x y : Str} {t1 t2 u1 u2 : Tok} (hl : s.heap.IsList D1 [Value.bool a, .bool b, .str x t1, .str y t2].toArray) (hb : s.heap.IsList D2 [Value.bool a, .bool b, .str x u1, .str y u2].toArray) (hu : A.units + 64 < cLine) (h : Q (.bool true) s) :
    wpAny (model prog w) A (compareOp .Eq (.ref D1) (.ref D2)) Q E s := by
  refine PySem.SeqAt.eq_listAt (e := fun _ => true) hl hb rfl (by omega) (fun j h1 h2 => ?_) h
  match j, h1, h2 with
  | 0, _, _ => have := PySem.SeqAt.EqAt.bool_bool (A := A.in1) (s := s) a a; rw [beq_self_eq_true] at this; exact this
  | 1, _, _ => have := PySem.SeqAt.EqAt.bool_bool (A := A.in1) (s := s) b b; rw [beq_self_eq_true] at this; exact this
  | 2, _, _ => have := PySem.SeqAt.EqAt.str_str (A := A.in1) (s := s) x t1 x u1; rw [beq_self_eq_true] at this; exact this
  | 3, _, _ => have := PySem.SeqAt.EqAt.str_str (A := A.in1) (s := s) y t2 y u2; rw [beq_self_eq_true] at this; exact this
  | j + 4, h1, _ => exact absurd h1 (by simp)
theorem item_nought {value slice : PySem.Expr} {c : Nat} {u : Tok} (N : News h₀ L s.heap news) (hm : (l, PySem.W.listOf (v :: vs).toArray c) ∈ news) (h : Q v s)
    (hs : subscripted slice false (.ref l) (.int 0 u) = operate [.ref l, .int 0 u] (getItem (.ref l) (.int 0 u)) := by with_unfolding_all rfl) :
    wpAny (model prog w) A (subscriptTail value slice (.ref l) (.int 0 u)) Q E s :=
  tail_any (N.isList hm).typeIs slot_list_getitem.lookup (wpAny_getItem_list (N.isList hm) (by decide) (by decide) (by simp) h) hs
end
theorem comp_same {h₀ : Heap} {L I C D : Addr} {m : Str → Option Value} {s₁ : Shared} {oI oC oD : Obj} {S : List (Addr × Obj) → Prop} {rest : Value → List (Addr × Obj) → Prop} {y : Value} {h' : Heap} {tk : Nat} {news' : List (Addr × Obj)}
    (F : Fr h₀ L h' m) (N : News h₀ L h' ((I, oI) :: (C, oC) :: (D, oD) :: news')) (off : LCg.Off3 I C D news') (hS : S news') (r : rest y news') : LCg.CompEnd h₀ L m s₁ I oI C oC D oD S rest y { s₁ with heap := h', toks := tk } := ⟨h', tk, news', rfl, F, N, off, hS, r⟩
local macro_rules | `(tactic| walk_at "CompRest") => `(tactic| (with_unfolding_all first
  | (refine LCg.CompRest.succ ?_; intro v' I' oI' C' oC' D' m' h' tk' E' hv' hC' hx' F' N' off' ne'; (first | lcg_open hv' | (obtain ⟨t9', hv9'⟩ := hv'; subst hv9')))
  | refine LCg.CompRest.zero ?_))
local macro_rules | `(tactic| walk_at "CompEnd") => `(tactic| (k_here; k_dflt (refine' comp_same ?F ?N ?off ?S ?_; (case F => k_asm); (case N => k_asm); (case off => assumption); (case S => lcg_src))))
local macro_rules | `(tactic| walk_at "subscriptTail Name Slice ref ref") => `(tactic| (k_here; (with_reducible show wpAny _ _ (subscriptTail _ (PySem.Expr.Slice _ _ none _) (Value.ref _) (Value.ref _)) _ _ _); k_dflt (refine' kms_slice_lit ?F ?N ?l ?p ?q ?e ?_ ?s ?t ?z; (case F => k_asm); (case N => k_asm); (case l => exact News.isList (by k_asm) (by k_mem)); (case p => exact IsPart.none); (case q => exact IsPart.int _ _); (case e => exact pick_one _ _); (case s => with_unfolding_all rfl); (case t => kmk_pure); (case z => (rw [PySem.sizeLine_eq]; simp only [List.size_toArray, List.length_cons]; omega))); intro D' h' F' N' l1; (try k_lt l1); (try k_sweep)))
local macro_rules | `(tactic| walk_at "subscriptTail") => `(tactic| (k_here; (with_reducible show wpAny _ _ (subscriptTail _ _ (Value.ref _) (Value.int 0 _)) _ _ _); k_dflt (refine' item_nought ?k1 ?k2 ?_ ?k6; (case k1 => k_asm); (case k2 => k_mem); (case k6 => with_unfolding_all rfl); k_whole)))
local macro_rules | `(tactic| walk_at "compareOp NotEq ref ref") => `(tactic| (k_here; k_dflt (first
  | refine ne_nil_yes (News.isList (by k_asm) (by k_mem)) (by assumption) (News.isList (by k_asm) (by k_mem)) (by (walk_at "MINE my_units")) ?_
  | refine ne_nil_no (News.isList (by k_asm) (by k_mem)) (News.isList (by k_asm) (by k_mem)) (by (walk_at "MINE my_units")) ?_)))
local macro_rules | `(tactic| walk_at "compareOp Eq ref ref") => `(tactic| (k_here; k_dflt (first
  | refine eq_nought (News.isList (by k_asm) (by k_mem)) (News.isList (by k_asm) (by k_mem)) (by (walk_at "MINE my_units")) ?_
  | refine eq_nought_no (News.isList (by k_asm) (by k_mem)) (News.isList (by k_asm) (by k_mem)) (by (walk_at "MINE my_units")) ?_
  | refine four_eq (News.isList (by k_asm) (by k_mem)) (News.isList (by k_asm) (by k_mem)) (by (walk_at "MINE my_units")) ?_)))
set_option maxHeartbeats 20000000
theorem pair_ok (w : World) (mean mg mb) (x y : Str) (tx ty : Tok) (hx : x.length ≤ 100) (hy : y.length ≤ 100) :
    Does w mean mg mb 385 [.str x tx, .str y ty] [] 5 400 (PurePost fun v => v = .bool true) := by
  unfold Does
  w_top off
  k_fill
  intro dp un gd cn cs a ccd cl outer A₀ base h₀ L m s Q E B F X N T hk hdp hun hret
  refine wpAny_call ?_
  k_dflt (walk_at "MINE my_enterC")
  k_steps
  all_goals (intro hst; exact hret _ [] _ _ rfl (by assumption) News.nil hst)
end
/- part A4 -/
/-- a call of the pool's def -/
def Pools (w : World) (mean : ExcName → Option Value) (mg mb : Str → Option Value) (l : Addr) (vs : List Value) (ns : List Int) : Prop :=
  ∀ (dp un : Nat) (gd : Option (List Code)) (cn : Str) (cs : Scope) (a : Addr) (ccd : Value) (cl : List (Str × Addr)) (outer : List Env) (A₀ : Around) (base h₀ : Heap) (L : Addr) (m : Str → Option Value) (s : Shared) (Q E : Value → Shared → Prop),
    Below A₀ base outer h₀ → Fr h₀ L s.heap m → (hd.heap_39 w.params).In h₀ → News h₀ L s.heap [] → Top view0 (looseW view0 []) mean mg mb h₀ → cs.kind = .function →
    dp + 3 < recursionLimit → un + 200 < cLine → base.IsList l vs.toArray → IntsAre vs ns → (PyData.list (ns.map PyData.int)).layable0 = true →
    (∀ (l' : Addr) (o : Obj) (h' : Heap) (tk' : Nat), Src o → Fr h₀ L h' m → News h₀ L h' [(l', o)] → Q (.ref l') { s with heap := h', toks := tk' }) →
    wpAny (model PySem.Challenge.rw_xm0668_01.row.prog w) (ktrTop dp un gd cn cs L a ccd cl outer) (call (.ref 356) [.ref l]) Q E s
theorem base_list {h₀ : Heap} {L l : Addr} {h : Heap} {m : Str → Option Value} {its : Array Value} (hl : h₀.IsList l its) (F : Fr h₀ L h m) : h.IsList l its := let ⟨o, ho, r⟩ := hl; ⟨o, F.keep l o ho, r⟩
section
local macro_rules | `(tactic| walk_at "compareOp NotEq ref ref") => `(tactic| (k_here; k_dflt (first
  | refine ne_nil_yes (base_list (by assumption) (by k_asm)) (by assumption) (News.isList (by k_asm) (by k_mem)) (by (walk_at "MINE my_units")) ?_
  | refine ne_nil_no (base_list (by assumption) (by k_asm)) (News.isList (by k_asm) (by k_mem)) (by (walk_at "MINE my_units")) ?_)))
theorem pool_nn {c : Int} {b : Prop} [Decidable b] : 0 ≤ (if -1 - c > c then -1 - c else c) * (if b then (1 : Int) else 0) := by
  have h : 0 ≤ (if -1 - c > c then -1 - c else c) := by split <;> omega
  refine Int.mul_nonneg h ?_
  by_cases hb : b
  · rw [if_pos hb]; decide
  · rw [if_neg hb]; decide
set_option maxHeartbeats 8000000
theorem pool_ok (w : World) (mean mg mb) (l : Addr) (vs : List Value) (ns : List Int) : Pools w mean mg mb l vs ns := by
  unfold Pools
  w_top off
  k_fill
  intro dp un gd cn cs a ccd cl outer A₀ base h₀ L m s Q E B F X N T hk hdp hun hl hI hlay hret
  cases hI with
  | nil =>
    refine wpAny_call ?_
    k_dflt (walk_at "MINE in_enter")
    k_steps
    rename News h₀ L _ _ => kN
    exact hret _ _ _ _ ⟨_, _, _, _, _, rfl, pool_nn, (fmod_bnd _ (by decide)).1, (fmod_bnd _ (by decide)).2⟩ (by assumption) (fun p hp => by rw [List.mem_singleton.mp hp]; exact kN _ (.head _))
  | cons k t r =>
    refine wpAny_call ?_
    k_dflt (walk_at "MINE in_enter")
    k_steps
    rename News h₀ L _ _ => kN
    exact hret _ _ _ _ ⟨_, _, _, _, _, rfl, pool_nn, (fmod_bnd _ (by decide)).1, (fmod_bnd _ (by decide)).2⟩ (by assumption) (fun p hp => by rw [List.mem_singleton.mp hp]; exact kN _ (.head _))
end
/- part A5 -/
def lawBody : List Stmt := match PySem.Challenge.pw_xm0668_01.main.body.getLast? with
  | some (.FunctionDef _ _ b _ _ _ _ _ _ _) => b
  | _ => []
def lawScope : Scope := match PySem.Challenge.pw_xm0668_01.main.body.getLast? with
  | some (.FunctionDef _ _ _ _ _ _ sc _ _ _) => sc
  | _ => { kind := .module, names := [], isGenerator := false, isCoroutine := false }
abbrev lawEnv (L fa : Addr) (cd : Value) : Env := envOf (Str.ofString "law") lawScope L fa cd
theorem notIn_two {prog : Program} {w : World} {A : Around} {E : Value → Shared → Prop} {s : Shared} {K : Frag} {h₀ : Heap} {L a : Addr} {m : Str → Option Value} {x z1 z2 : Str} {t t1 t2 : Tok} {n : Nat} {l : List Value} {dd : Option Addr} {sl : Array (Option Value)} {Q : Value → Shared → Prop}
    (F : Fr h₀ L s.heap m) (X₀ : K.In h₀) (hl : K.lookup a = some ⟨.type "tuple", dd, .seq l.toArray n, sl⟩) (hL : l = [.str z1 t1, .str z2 t2]) (hz : (z1 == x || z2 == x) = true) (h : Q (.bool false) s) :
    wpAny (model prog w) A (compareOp .NotIn (.str x t) (.ref a)) Q E s := by
  subst hL
  have ht : s.heap.IsTuple a [Value.str z1 t1, .str z2 t2].toArray := ⟨_, (X₀.keeps F.keep) _ _ hl, rfl, n, rfl⟩
  refine PySem.SeqAt.notIn_tupleAt (fun y => match y with | .str z _ => z == x | _ => false) ht (fun y hy => ?_) ?_
  · have hy' : y ∈ [Value.str z1 t1, .str z2 t2] := by simpa using hy
    simp only [List.mem_cons, List.not_mem_nil, or_false] at hy'
    rcases hy' with rfl | rfl
    · exact PySem.SeqAt.EqAt.str_str z1 t1 x t
    · exact PySem.SeqAt.EqAt.str_str z2 t2 x t
  · have e : ([Value.str z1 t1, .str z2 t2].toArray.any fun y => match y with | .str z _ => z == x | _ => false) = true := by simpa using hz
    rw [e]
    exact h
section
local macro_rules | `(tactic| walk_at "compareOp NotIn str ref") => `(tactic| (k_here; k_dflt (refine' notIn_two ?k1 ?k2 ?k3 ?k4 ?k5 ?_; (case k1 => k_asm); (case k2 => k_asm); (case k3 => k_is); (case k4 => exact rfl); (case k5 => decide +kernel); k_whole)))
local macro_rules | `(tactic| walk_at "callWith ref") => `(tactic| (k_here; (with_reducible show wpAny _ _ (callWith _ (Value.ref _) _ (backTo _ (starEach [] _)) []) _ _ _); k_dflt (first
  | (refine' callWith_K0 ?k1 ?k2 ?_; (case k1 => k_in); (case k2 => k_is); k_whole)
  | (refine' callWith_M0 ?k1 ?k2 ?_; (case k1 => k_meth); (case k2 => k_is); k_whole; try dsimp only [List.nil_append, List.cons_append]))))
theorem two_ints {v : Value} {a b : Int} {t u : Tok} (h : v ∈ [Value.int a t, .int b u]) : ∃ k t', v = .int k t' := by
  simp only [List.mem_cons, List.not_mem_nil, or_false] at h
  rcases h with rfl | rfl
  · exact ⟨_, _, rfl⟩
  · exact ⟨_, _, rfl⟩
local macro_rules | `(tactic| walk_at "call ref") => `(tactic| (k_here; k_dflt ((walk_at "MINE one_use"); (try ((rename _ ∈ [Value.int _ _, Value.int _ _] => hv'); (have hk' := two_ints hv'); clear hv'; obtain ⟨k', t', he'⟩ := hk'; subst he')); (try dsimp only))))
theorem fr_name {h₀ h : Heap} {L : Addr} {m : Str → Option Value} {x : Str} {v : Value} (F : Fr h₀ L h m) (hm : m x = some v) : Fr h₀ L h (fun y => if y = x then some v else m y) := by
  have e : (fun y => if y = x then some v else m y) = m := by
    funext y
    by_cases h : y = x
    · rw [if_pos h, h, hm]
    · rw [if_neg h]
  rw [e]
  exact F
theorem ne_nil_any {prog : Program} {w : World} {A : Around} {E : Value → Shared → Prop} {s : Shared} {D1 D2 : Addr} {v : Value} {vs : List Value} {Q : Value → Shared → Prop} (hl : s.heap.IsList D1 (v :: vs).toArray) (hb : s.heap.IsList D2 ([] : List Value).toArray) (hu : A.units < cLine) (h : Q (.bool true) s) : wpAny (model prog w) A (compareOp .NotEq (.ref D1) (.ref D2)) Q E s :=
  PySem.SeqAt.RcNeAt.lists_lengths hl hb (by simp) hu prog w E Q h
local macro_rules | `(tactic| walk_at "compareOp NotEq ref ref") => `(tactic| (k_here; k_dflt (refine ne_nil_any (News.isList (by k_asm) (by k_mem)) (News.isList (by k_asm) (by k_mem)) (by (walk_at "MINE my_units")) ?_)))
local macro_rules | `(tactic| walk_at "subscriptTail") => `(tactic| (k_here; (with_reducible show wpAny _ _ (subscriptTail _ _ (Value.ref _) (Value.int 0 _)) _ _ _); k_dflt (refine' item_nought ?k1 ?k2 ?_ ?k6; (case k1 => k_asm); (case k2 => k_mem); (case k6 => with_unfolding_all rfl); k_whole)))
def SelfOk : Value → Prop
  | .str _ t => t ≠ 0
  | .ref _ => True
  | .bool _ => True
  | _ => False
theorem isSame_str_self (x : Str) (t : Tok) (h : t ≠ 0) : isSame (.str x t) (.str x t) = pure true := by
  have h0 : (t == 0) = false := by simpa using h
  unfold isSame
  show isSame.created (x == x) t t = pure true
  unfold isSame.created
  rw [h0, beq_self_eq_true]
  rfl
theorem is_self {M : Model} {A : Around} {E : Value → Shared → Prop} {s : Shared} {v : Value} {Q : Value → Shared → Prop} (hv : SelfOk v) (h : Q (.bool true) s) : wpAny M A (compareOp .Is v v) Q E s := by
  cases v with
  | str x t =>
    show wpAny M A (do return .bool (← isSame (.str x t) (.str x t))) Q E s
    exact wpAny_bind (wpAny_of_eq (isSame_str_self x t hv) (wpAny_pure h))
  | ref a => exact wpAny_is_ref_self h
  | bool b => exact wpAny_is_self rfl h
  | _ => exact absurd hv (by intro h; exact h)
local macro_rules | `(tactic| walk_at "compareOp Is") => `(tactic| (k_here; refine is_self (by assumption) ?_))
local macro_rules | `(tactic| walk_at "compareOp") => `(tactic| (k_here; (with_reducible show wpAny _ _ (compareOp CmpOp.Is _ _) _ _ _); refine is_self (by assumption) ?_))
set_option maxHeartbeats 8000000
theorem tail2_ok (w : World) (mean mg mb) (base h₀ : Heap) (L fa : Addr) (cd : Value) (m : Str → Option Value) (s : Shared) (Q : Flow → Shared → Prop) (E : Value → Shared → Prop) (tr : Addr) (k : Int) (t : Tok) (v : Value) :
    Below callerA base [] h₀ → Fr h₀ L s.heap m → (hd.heap_39 w.params).In h₀ → News h₀ L s.heap [] → Top view0 (looseW view0 []) mean mg mb h₀ → m (Str.ofString "tree") = some (.ref tr) → m (Str.ofString "node") = some (.int k t) → m (Str.ofString "value") = some v → SelfOk v →
    (∀ (h' : Heap) (tk' : Nat) (m' : Str → Option Value), Fr h₀ L h' m' → Q (.ret (.bool true)) { s with heap := h', toks := tk' }) →
    wpAny (model PySem.Challenge.rw_xm0668_01.row.prog w) (callerA.deeper (lawEnv L fa cd)) (execs (lawBody.drop 8) (lawEnv L fa cd)) Q E s := by
  w_top off
  k_fill
  intro B F₀ X N T hm1 hm2 hm3 hv ret
  have F₁ := fr_name F₀ hm1
  have F₂ := fr_name F₁ (x := Str.ofString "node") (v := .int k t) (by rw [if_neg (by decide)]; exact hm2)
  have F := fr_name F₂ (x := Str.ofString "value") (v := v) (by rw [if_neg (by decide), if_neg (by decide)]; exact hm3)
  clear F₀ F₁ F₂ hm1 hm2 hm3
  k_steps
  exact ret _ _ _ (by assumption)
theorem gen_toks {α : Type} {M : Model} {A : Around} {t : Sem α} {Q : α → Shared → Prop} {E : Value → Shared → Prop} {h : Heap} {g : Array GenState} {d : Drawn} {n : Nat} {os : OsState} (k : ∀ tk : Nat, tk ≠ 0 → wpAny M A t Q E { heap := h, gens := g, drawn := d, toks := tk, os := os }) : wpAny M A t Q E { heap := h, gens := g, drawn := d, toks := n + 1, os := os } := k _ (Nat.succ_ne_zero n)
theorem menu_self {v : Value} {a b : Str} {t1 t2 : Tok} {r1 r2 r3 r4 r5 : Addr} {b1 b2 : Bool} (h : v ∈ [Value.str a t1, .str b t2, .ref r1, .ref r2, .bool b1, .bool b2, .ref r3, .ref r4, .ref r5]) (h1 : t1 ≠ 0) (h2 : t2 ≠ 0) : SelfOk v := by
  simp only [List.mem_cons, List.not_mem_nil, or_false] at h
  rcases h with rfl | rfl | rfl | rfl | rfl | rfl | rfl | rfl | rfl
  · exact h1
  · exact h2
  all_goals trivial
local macro_rules | `(tactic| walk_at "execs cons") => `(tactic| (k_here; with_reducible refine gen_toks ?_; intro tk' hTk'))
local macro_rules | `(tactic| walk_at "execs cons") => `(tactic| (k_here; (with_reducible show wpAny _ _ (execs (Stmt.Assign [PySem.Expr.Name (Str.ofString "context") _] _ _ :: _) _) _ _ _); (have hs' := menu_self (by assumption) (by assumption) (Nat.succ_ne_zero _)); k_dflt (refine' tail2_ok _ _ _ _ _ _ _ _ _ _ _ _ _ _ _ _ _ ?k1 ?k2 ?k3 ?k4 ?k5 ?k6 ?k7 ?k8 ?k9 ?_; (case k1 => k_asm); (case k2 => k_asm); (case k3 => k_asm); (case k4 => exact News.nil); (case k5 => k_asm); (case k6 => exact rfl); (case k7 => exact rfl); (case k8 => exact rfl); (case k9 => exact hs'); intro h' tk' m' F')))
set_option maxHeartbeats 8000000
theorem tail_ok (w : World) (mean mg mb) (S : Addr) (o : Obj) (base h₀ : Heap) (L fa : Addr) (cd : Value) (m : Str → Option Value) (s : Shared) (Q : Flow → Shared → Prop) (E : Value → Shared → Prop) :
    Src o → Below callerA base [] h₀ → Fr h₀ L s.heap m → (hd.heap_39 w.params).In h₀ → News h₀ L s.heap [(S, o)] → Top view0 (looseW view0 []) mean mg mb h₀ → m (Str.ofString "source") = some (.ref S) →
    (∀ (h' : Heap) (tk' : Nat) (m' : Str → Option Value), Fr h₀ L h' m' → Q (.ret (.bool true)) { s with heap := h', toks := tk' }) →
    wpAny (model PySem.Challenge.rw_xm0668_01.row.prog w) (callerA.deeper (lawEnv L fa cd)) (execs (lawBody.drop 3) (lawEnv L fa cd)) Q E s := by
  w_top off
  k_fill
  intro ho B F₀ X N T hm ret
  have F := fr_name F₀ hm
  clear F₀ hm
  k_steps
  exact ret _ _ _ (by assumption)
end
/- part M1 -/
local macro_rules | `(tactic| walk_at "MINE pair_use") => `(tactic| (
  (with_reducible show wpAny _ _ (call (Value.ref 385) [Value.str _ _, Value.str _ _]) _ _ _)
  (refine' use_pure (pair_ok _ _ _ _ _ _ _ _ ?kx ?ky) ?k1 ?k2 ?k3 ?k4 ?k5 ?kK ?kd ?ku ?_)
  (case kx => first | decide | omega | fail "use: the text's length")
  (case ky => first | decide | omega | fail "use: the mark's length")
  (walk_at "MINE pure_tail")
  (intro v' h' tk' hv' F' N')
  (subst hv')
  (try dsimp only)
  (try k_fold)))
section
variable {w : World} {mean : ExcName → Option Value} {mg mb : Str → Option Value} {l : Addr} {vs : List Value} {ns : List Int}
  {dp un : Nat} {gd : Option (List Code)} {cn : Str} {cs : Scope} {a : Addr} {ccd : Value} {cl : List (Str × Addr)} {outer : List Env} {A₀ : Around} {base h₀ : Heap} {L : Addr} {m : Str → Option Value} {s : Shared} {Q E : Value → Shared → Prop}
theorem use_pool (B : Below A₀ base outer h₀) (F : Fr h₀ L s.heap m) (X : (hd.heap_39 w.params).In h₀) (N : News h₀ L s.heap []) (T : Top view0 (looseW view0 []) mean mg mb h₀) (hk : cs.kind = .function)
    (hdp : dp + 3 < recursionLimit) (hun : un + 200 < cLine) (hl : base.IsList l vs.toArray) (hI : IntsAre vs ns) (hlay : (PyData.list (ns.map PyData.int)).layable0 = true)
    (ret : ∀ (l' : Addr) (o : Obj) (h' : Heap) (tk' : Nat), Src o → Fr h₀ L h' m → News h₀ L h' [(l', o)] → Q (.ref l') { s with heap := h', toks := tk' }) :
    wpAny (model PySem.Challenge.rw_xm0668_01.row.prog w) (ktrTop dp un gd cn cs L a ccd cl outer) (call (.ref 356) [.ref l]) Q E s :=
  pool_ok w mean mg mb l vs ns dp un gd cn cs a ccd cl outer A₀ base h₀ L m s Q E B F X N T hk hdp hun hl hI hlay ret
end
local macro_rules | `(tactic| walk_at "MINE pool_use") => `(tactic| (
  (with_reducible show wpAny _ _ (call (Value.ref 356) [Value.ref _]) _ _ _)
  (refine' use_pool ?k1 ?k2 ?k3 ?k4 ?k5 ?kK ?kd ?ku ?kl ?ki ?kw ?_)
  (walk_at "MINE pure_tail")
  (case kl => assumption)
  (case ki => assumption)
  (case kw => assumption)
  (intro l' o' h' tk' hS' F' N')
  (try dsimp only)
  (try k_fold)))
local macro_rules | `(tactic| walk_at "MINE text_use") => `(tactic| (
  (with_reducible show wpAny _ _ (call (Value.ref 375) [Value.ref _, Value.int _ _]) _ _ _)
  (refine' use_src (text_ok _ _ _ _ _ _ _ _ ?ko ?kt ?kt2) ?k1 ?k2 ?k3 ?k4 ?k5 ?kK ?kU ?ks ?kd ?ku ?_)
  (walk_at "MINE use_pre")
  (case ko => first | assumption | fail "use: the source's word")
  (case kt => first | decide | omega | fail "use: the bound's sign")
  (case kt2 => first | decide | omega | fail "use: the bound's size")
  (case ks => exact fun _ hp => nomatch hp)
  (rintro _ o' h' tk' ⟨x', t', he', hx'⟩ hS' F' N')
  (subst he')
  (try dsimp only)
  (try k_fold)))
theorem mark_menu {v : Value} {x a b c d : Str} {t1 t2 t3 t4 : Tok} (h : v ∈ [Value.str a t1, .str b t2, .str c t3, .str d t4]) (hx : x.length ≤ 12) (ha : a.length ≤ x.length) (hb : b.length ≤ x.length) (hc : c.length ≤ 12) (hd : d.length ≤ 12) : ∃ y t, v = .str y t ∧ y.length ≤ 12 := by
  simp only [List.mem_cons, List.not_mem_nil, or_false] at h
  rcases h with rfl | rfl | rfl | rfl
  · exact ⟨_, _, rfl, by omega⟩
  · exact ⟨_, _, rfl, by omega⟩
  · exact ⟨_, _, rfl, hc⟩
  · exact ⟨_, _, rfl, hd⟩
local macro_rules | `(tactic| walk_at "MINE one_more") => `(tactic| (
  (walk_at "MINE one_use")
  (rename _ ∈ (_ : List Value) => hv')
  (first
    | ((have hm' := mark_menu hv' (by assumption) (Txt.slice_le _ _ _) (Txt.slice_le _ _ _) (by assumption) (by decide)); (obtain ⟨y', t', he', hy'⟩ := hm'); (subst he'); (clear hv'); (try dsimp only); (try k_fold))
    | ((simp only [List.mem_cons, List.not_mem_nil, or_false] at hv'); (repeat' (rcases hv' with hv' | hv')); (all_goals (subst hv')); (all_goals (try dsimp only)); (all_goals (try k_fold))))))
section
local macro_rules | `(tactic| walk_at "call ref") => `(tactic| (k_here; k_dflt (walk_at "MINE pair_use")))
local macro_rules | `(tactic| walk_at "call ref") => `(tactic| (k_here; k_dflt (walk_at "MINE pool_use")))
local macro_rules | `(tactic| walk_at "call ref") => `(tactic| (k_here; k_dflt (walk_at "MINE text_use")))
local macro_rules | `(tactic| walk_at "call ref") => `(tactic| (k_here; k_dflt (walk_at "MINE take_use")))
local macro_rules | `(tactic| walk_at "call ref") => `(tactic| (k_here; k_dflt (walk_at "MINE one_more")))
local macro_rules | `(tactic| walk_at "execs cons") => `(tactic| (k_here; (with_reducible show wpAny _ _ (execs (Stmt.Assign [PySem.Expr.Name (Str.ofString "tree") _] _ _ :: _) _) _ _ _); k_dflt (refine' tail_ok _ _ _ _ _ _ _ _ _ _ _ _ _ _ _ ?k0 ?k1 ?k2 ?k3 ?k4 ?k5 ?k6 ?_; (case k1 => k_asm); (case k2 => k_asm); (case k3 => k_asm); (case k5 => k_asm); (case k0 => assumption); (case k4 => ((rename News _ _ _ _ => kN'); exact cb_drop kN' (List.forall_mem_cons.mpr ⟨by k_mem, fun _ hp => nomatch hp⟩))); (case k6 => exact rfl); intro h' tk' m' F')))
set_option maxHeartbeats 8000000 in
theorem law_holds : PySem.Challenge.rw_xm0668_01.Holds := by
  refine hd ?_
  k_go0
  all_goals try k_fold
  k_steps
end
end Mine
theorem PySem.Challenge.cw_xm0668_01_holds : PySem.Challenge.rw_xm0668_01.Holds :=
  Mine.law_holds
