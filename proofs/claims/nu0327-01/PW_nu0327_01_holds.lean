import PyProof.Rows.All
import Wide.All
import OpenK.AllK
import Wide.FinOn
import PySem.Challenge.RW_nu0327_01
open PySem PySem.W PyProof.Rows
set_option Elab.async false
set_option rowWalk.seconds 0
set_option maxRecDepth 100000
namespace NuMark
/-- the text less the rows that bind __name__ anew -/
def vw : Program := { PySem.Challenge.pw_nu0327_01 with main := { PySem.Challenge.pw_nu0327_01.main with body := ((((PySem.Challenge.pw_nu0327_01.main.body.eraseIdx 24).eraseIdx 21).eraseIdx 18).eraseIdx 11).eraseIdx 1 } }
/-- the boot's objects as a tree -/
def treeIns : BT → Nat → List Obj → BT
  | t, _, [] => t
  | t, i, o :: r => treeIns (t.ins i o) (i + 1) r
/-- topRun over a tree of objects -/
def topRunT (tb : String → Option Builtin) (p : Program) (w : World) (n₀ : Nat) (ann : Option Value) : Nat → SharedT → Thread → Option SharedT
  | 0, _, _ => none
  | n + 1, s, t => match through t with
    | true => some s
    | false => match stepOk n₀ ann t with
      | false => none
      | true => match stepT (denote tb) p w s t with
        | some (s', t') => topRunT tb p w n₀ ann n s' t'
        | none => none
theorem topRunT_spec {tb : String → Option Builtin} {p : Program} {w : World} {n₀ : Nat} {ann : Option Value} : ∀ (n : Nat) (s : SharedT) (t : Thread) (r : SharedT), topRunT tb p w n₀ ann n s t = some r → topRun tb p w n₀ ann n s.abs t = some r.abs
  | 0, _, _, _, h => by simp [topRunT] at h
  | n + 1, s, t, r, h => by
    unfold topRunT at h
    unfold topRun
    cases ht : through t with
    | true => rw [ht] at h; simp only [Option.some.injEq] at h ⊢; rw [h]
    | false =>
      rw [ht] at h
      cases hk : stepOk n₀ ann t with
      | false => rw [hk] at h; cases h
      | true =>
        rw [hk] at h
        cases hs : stepT (denote tb) p w s t with
        | none => rw [hs] at h; cases h
        | some x =>
          obtain ⟨s', t'⟩ := x
          rw [hs] at h
          dsimp only
          rw [stepT_spec hs]
          exact topRunT_spec n s' t' r h
noncomputable def bootT (P : Params) (os : OsState) : SharedT := ⟨treeIns .nil 0 (boot_heap P).objs.toList, (boot_heap P).objs.size, (boot_heap P).life, Array.mk [], boot_drawn, boot_toks, os⟩
noncomputable def topFromT (p : Program) (w : World) (N : Nat) (os : OsState) : Option Shared :=
  match (boot_heap w.params).isNs mainGlobals with
  | true => (topRunT treeTable p w (boot_heap w.params).objs.size ((boot_heap w.params).nsMap mainGlobals "__annotations__") N (bootT w.params os) (topStub p)).bind fun s₁ =>
    match staticsOk (importedModules p.main.body) (boot_heap w.params) s₁.abs.heap && namesBound p s₁.abs.heap && gensDone s₁.abs && laidKept (boot_heap w.params) s₁.abs.heap with
    | true => some s₁.abs
    | false => none
  | false => none
theorem topFromT_spec {p : Program} {w : World} {N : Nat} {os : OsState} {r : Shared} (h0 : absHeap (treeIns .nil 0 (boot_heap w.params).objs.toList) (boot_heap w.params).objs.size (boot_heap w.params).life = boot_heap w.params)
    (h : topFromT p w N os = some r) : topFrom treeTable p w N ⟨boot_heap w.params, Array.mk [], boot_drawn, boot_toks, os⟩ = some r := by
  unfold topFromT at h
  unfold topFrom
  cases hi : (boot_heap w.params).isNs mainGlobals with
  | false => rw [hi] at h; cases h
  | true =>
    rw [hi] at h
    dsimp only at h ⊢
    obtain ⟨sT, e1, e2⟩ := Option.bind_eq_some_iff.mp h
    have e3 := topRunT_spec _ _ _ _ e1
    have e4 : (bootT w.params os).abs = ⟨boot_heap w.params, Array.mk [], boot_drawn, boot_toks, os⟩ := by
      show Shared.mk _ _ _ _ _ = _
      unfold bootT
      dsimp only
      rw [h0]
    rw [e4] at e3
    show ((topRun treeTable p w _ _ N _ (topStub p)).bind _) = some r
    rw [e3]
    exact e2
theorem left_of_boot {p q : Program} {loose : List Str} {Xt : Shared → Bool} {α : Type} {Yf : Shared → α} {Ya : World → α} {N : Nat} {g0 : Bool} (e : opening p = plainProg p.main.scope.names) (hN : Nat.ble 600 N = true) (f : ∀ s, fenceModules? p s = some s)
    (h0 : ∀ P : Params, absHeap (treeIns .nil 0 (boot_heap P).objs.toList) (boot_heap P).objs.size (boot_heap P).life = boot_heap P)
    (h : ∀ (w : World) (os : OsState), (topFromT p w N os).map (fun s => (openSeen q loose (importedModules p.main.body) Xt g0 s, Yf s)) = some (openGood q loose, Ya w)) : LeftO p q loose Xt Yf Ya N g0 := fun w => by
  obtain ⟨⟨h1, gs, d, k, os⟩, e1, e2⟩ := Option.map_eq_some_iff.mp (boot_open e hN f w)
  obtain ⟨rfl, rfl, rfl, rfl⟩ : h1 = boot_heap w.params ∧ gs = Array.mk [] ∧ d = boot_drawn ∧ k = boot_toks := by simpa using e2
  unfold openEnds
  rw [e1]
  obtain ⟨r, e3, e4⟩ := Option.map_eq_some_iff.mp (h w os)
  show (topFrom treeTable p w N _).map _ = _
  rw [topFromT_spec (h0 w.params) e3]
  exact congrArg some e4
local macro_rules | `(tactic| o_head $H) => `(tactic| ((refine holds_open (q := NuMark.vw) (loose := []) (Xt := fun s => xlAt NuMark.vw [] s && recOk (RowW.records (OpenRow.toRowW PySem.Challenge.rw_nu0327_01.row)) s) (XP := XL NuMark.vw []) (Yf := Hook.obs $H) (Ya := Hook.val $H) (YP := Hook.says $H) (N := 4018) ?hl (Hook.of $H) (Hook.keeps $H) (fun s e => xl_of s (Bool.and_eq_true_iff.mp e).1) XL.keeps (by rfl) (by rfl) (by rfl) (fun s e => recFacts_of (Bool.and_eq_true_iff.mp e).2) (by rfl) (by first | assumption | decide +kernel) (by decide +kernel) ⟨rfl, rfl, rfl, rfl, rfl, by decide +kernel⟩ ?hw ?hc); (case hl => (refine NuMark.left_of_boot (by rfl) (by rfl) (fun s => by rfl) (fun P => by kernel_rfl) ?_; intro w os; kernel_rfl))))
set_option maxHeartbeats 80000000 in
open_top hd for PySem.Challenge.rw_nu0327_01
end NuMark
open PySem PySem.W PySem.Spec PySem.Calls PyProof.Rows PyProof.V
namespace NuMark
example : True := by (w_top off); trivial
/-- all objects but those at mu stand as they stood -/
def Same (mu : List Addr) (h h' : Heap) : Prop := ∀ b o, b ∉ mu → h.get? b = some o → h'.get? b = some o

theorem Same.refl (mu : List Addr) (h : Heap) : Same mu h h := fun _ _ _ e => e
theorem Same.trans {mu : List Addr} {h h' h'' : Heap} (a : Same mu h h') (b : Same mu h' h'') : Same mu h h'' := fun x o n e => b x o n (a x o n e)
theorem Same.mono {mu mv : List Addr} {h h' : Heap} (a : Same mu h h') (s : ∀ b ∈ mu, b ∈ mv) : Same mv h h' := fun x o n e => a x o (fun q => n (s x q)) e

def Hold (P : Prop) : Prop := P
/-- no raise leaves -/
abbrev NoE : Value → Shared → Prop := fun _ _ => False
theorem hold {P : Prop} (h : Hold P) : P := h
theorem hold_out {P : Prop} (h : P) : Hold P := h

section
variable {h₀ h h' : Heap} {L : Addr} {m : Str → Option Value} {news news' : List (Addr × Obj)} {mu : List Addr}
theorem Fr.same (F : Fr h₀ L h m) (S : Same mu h h') (hm : ∀ b ∈ mu, b ≠ L ∧ h₀.get? b = none) : Fr h₀ L h' m := by
  obtain ⟨oL, es, ep, hL, r⟩ := F.ns
  refine ⟨⟨oL, es, ep, S _ _ (fun q => (hm _ q).1 rfl) hL, r⟩, fun b o e => S b o (fun q => ?_) (F.keep b o e), F.above⟩
  have := (hm b q).2; rw [e] at this; cases this
theorem Fr.same0 (F : Fr h₀ L h m) (S : Same [] h h') : Fr h₀ L h' m := Fr.same F S (fun _ q => nomatch q)
theorem News.same0 (N : News h₀ L h news) (S : Same [] h h') : News h₀ L h' news := fun p hp => ⟨S _ _ (fun q => nomatch q) (N p hp).1, (N p hp).2⟩
theorem mut1 {d : Addr} {o : Obj} (N : News h₀ L h news) (hd : (d, o) ∈ news) : ∀ b ∈ [d], b ≠ L ∧ h₀.get? b = none := fun b q => by
  rw [List.mem_singleton.mp q]; exact ⟨(N _ hd).2.1, (N _ hd).2.2⟩
theorem Upd.mem {d : Addr} {o o' : Obj} (U : Upd d o o' news news') : (d, o) ∈ news := by
  obtain ⟨pre, post, rfl, _⟩ := U.split; simp
theorem Upd.mem' {d : Addr} {o o' : Obj} (U : Upd d o o' news news') : (d, o') ∈ news' := by
  obtain ⟨pre, post, _, rfl, _⟩ := U.split; simp
theorem Fr.same1 {d : Addr} {o : Obj} (F : Fr h₀ L h m) (N : News h₀ L h news) (hm : (d, o) ∈ news) (S : Same [d] h h') : Fr h₀ L h' m := Fr.same F S (mut1 N hm)
theorem News.same1 {d : Addr} {o o' : Obj} (N : News h₀ L h news) (U : Upd d o o' news news') (S : Same [d] h h') (hd : h'.get? d = some o') : News h₀ L h' news' := by
  have hm := Upd.mem U
  obtain ⟨pre, post, rfl, rfl, a, b⟩ := U.split
  intro p hp
  rcases List.mem_append.mp hp with hp | hp
  · have P := N p (List.mem_append_left _ hp)
    exact ⟨S _ _ (fun q => a p hp (List.mem_singleton.mp q)) P.1, P.2⟩
  · rcases List.mem_cons.mp hp with rfl | hp
    · exact ⟨hd, (N _ hm).2⟩
    · have P := N p (List.mem_append_right _ (.tail _ hp))
      exact ⟨S _ _ (fun q => b p hp (List.mem_singleton.mp q)) P.1, P.2⟩
end

section
variable {prog : Program} {w : World} {A A₀ : Around} {s : Shared} {K : Frag} {L : Addr} {h₀ base : Heap} {m mg mb : Str → Option Value} {news : List (Addr × Obj)} {p : Program} {loose : List Str} {mean : ExcName → Option Value}
theorem code_sameR {env : Env} {outer : List Env} {R : Result → Shared → Prop} {name qual : Str} {params : Arguments} {body : List Stmt} {scope : Scope} {dV kV doc pm cdv ct oc : Value} {an od : Option Addr} {osl : Array (Option Value)} {f : Addr} {args : Args} {binds : List (Str × Value)}
    (B : Below A₀ base outer h₀) (F : Fr h₀ L s.heap m) (X₀ : K.In h₀) (N : News h₀ L s.heap news) (T : Top p loose mean mg mb h₀) (hA : A.frames = some (env :: outer)) (hf : env.frame = some L) (hke : env.scope.kind = .function)
    (ho : K.lookup f = some ⟨oc, od, .func (fnOf name qual params body scope dV kV doc pm an cdv ct), osl⟩) (hcd : codeIn K cdv qual = true) (hroom : A.depth < recursionLimit)
    (hbind : BindsTo s (fnOf name qual params body scope dV kV doc pm an cdv ct) args binds) (hloc : ∀ y ∈ binds, scope.names.lookup y.1 = some .local)
    (h : ∀ g L' h₁, (∀ b o, b ∉ news.map (·.1) → s.heap.get? b = some o → g.get? b = some o) → L' = s.heap.objs.size → Fr g L' h₁ (fun y => binds.reverse.lookup y) → News g L' h₁ news → Below A base (env :: outer) g → K.In g → Top p loose mean mg mb g →
      wpAny (model prog w) (A.deeper (envOf qual scope L' f cdv)) (execs body (envOf qual scope L' f cdv))
        (fun fl s' => R (.ok (.ret (match fl with | .ret v => v | _ => .none))) s')
        (fun e s' => wpAny (model prog w) (A.deeper (envOf qual scope L' f cdv)) (leaving (envOf qual scope L' f cdv) e) (fun _ s'' => R (.error e) s'') (fun e' s'' => R (.error e') s'') s')
        { s with heap := h₁, toks := s.toks + binds.length })
    (hco : scope.isCoroutine = false) (hgen : scope.isGenerator = false) (hk : scope.kind = .function)
    (hcell : ∀ x ∈ scope.names, x.2 ≠ .cell) : codeAny (model prog w) A (.call (.ref f) args) R s := by
  obtain ⟨FG, BG, st, lv⟩ := groundX (R := R) B F N hA hf hke
  refine codeAny_call_def (fd := fnOf name qual params body scope dV kV doc pm an cdv ct) (body := body) (binds := binds) hroom ((X₀.keeps F.keep) _ _ ho) rfl (T.nolimit.keeps F.keep) (codeRec_of (X₀.keeps F.keep) hcd) rfl hbind hcell hloc (fun h₁ hns hk₁ => ?_) hco hgen hk
  exact h (hideAll s.heap (news.map (·.1))) s.heap.objs.size h₁ (fun b o n e => hideAll_get _ e n) rfl ⟨hns, fun b o e => hk₁ b o (of_hideAll _ e), Nat.le_of_eq (hideAll_size _ _)⟩
    (fun p hp => ⟨hk₁ _ _ (N p hp).1, Nat.ne_of_lt (Heap.lt_size (N p hp).1), hideAll_none _ (List.mem_map_of_mem hp)⟩) BG (X₀.keeps fun b o e => st b o e) (T.keeps fun b o e => st b o e)

/-- the same for a def with cells of its own -/
theorem code_sameCR {env : Env} {outer : List Env} {R : Result → Shared → Prop} {name qual : Str} {params : Arguments} {body : List Stmt} {scope : Scope} {dV kV doc pm cdv ct oc : Value} {an od : Option Addr} {osl : Array (Option Value)} {f : Addr} {args : Args} {binds : List (Str × Value)}
    (B : Below A₀ base outer h₀) (F : Fr h₀ L s.heap m) (X₀ : K.In h₀) (N : News h₀ L s.heap news) (T : Top p loose mean mg mb h₀) (hA : A.frames = some (env :: outer)) (hf : env.frame = some L) (hke : env.scope.kind = .function)
    (ho : K.lookup f = some ⟨oc, od, .func (fnOf name qual params body scope dV kV doc pm an cdv ct), osl⟩) (hcd : codeIn K cdv qual = true) (hroom : A.depth < recursionLimit)
    (hbind : BindsTo s (fnOf name qual params body scope dV kV doc pm an cdv ct) args binds) (hkind : (binds.all fun y => scope.names.lookup y.1 == some .local || scope.names.lookup y.1 == some .cell) = true)
    (hnd : ((cellsFrom 0 scope.names []).map (·.1)).Nodup)
    (h : ∀ g L' h₁ tk cells, (∀ b o, b ∉ news.map (·.1) → s.heap.get? b = some o → g.get? b = some o) → L' = s.heap.objs.size → Fr g L' h₁ (bindL (envOfC qual scope L' f cdv).kindOf binds fun _ => none) → News g L' h₁ (cells ++ news) →
      CellsAre (bindC (envOfC qual scope L' f cdv).kindOf binds fun _ => none) (cellsFrom (L' + 1) scope.names []) cells → Below A base (env :: outer) g → K.In g → Top p loose mean mg mb g → (∀ p ∈ news, p.1 < L') →
      wpAny (model prog w) (A.deeper (envOfC qual scope L' f cdv)) (execs body (envOfC qual scope L' f cdv))
        (fun fl s' => R (.ok (.ret (match fl with | .ret v => v | _ => .none))) s')
        (fun e s' => wpAny (model prog w) (A.deeper (envOfC qual scope L' f cdv)) (leaving (envOfC qual scope L' f cdv) e) (fun _ s'' => R (.error e) s'') (fun e' s'' => R (.error e') s'') s')
        { s with heap := h₁, toks := tk })
    (hco : scope.isCoroutine = false) (hgen : scope.isGenerator = false) (hk : scope.kind = .function) : codeAny (model prog w) A (.call (.ref f) args) R s := by
  obtain ⟨FG, BG, st, lv⟩ := groundX (R := R) B F N hA hf hke
  refine codeAny_call_function hroom ((X₀.keeps F.keep) _ _ ho) rfl hco hgen rfl (codeRec_of (X₀.keeps F.keep) hcd) (hbind _ _ _ _ ?_)
  refine wpAny_newFunctionEnv_cells hk (kindsX hkind _) fun env' he s' x => ?_
  subst he
  refine ⟨(T.nolimit.keeps F.keep).keeps x.toInCall.keep, codeAny_func ?_⟩
  obtain ⟨h₁, tk, rfl, _⟩ := x.done
  have kept := x.toInCall.keep
  have size : ∀ p ∈ news, p.1 < s.heap.objs.size := fun p hp => Heap.lt_size (N p hp).1
  obtain ⟨cells, NC, Y⟩ := Cl.news (h₀ := s.heap) (Nat.le_refl _) fun n c hm => ⟨x.cell n c (lookup_of_mem_nodup (cellsFrom_names scope.names 0 (s.heap.objs.size + 1) [] [] rfl ▸ hnd) hm), x.above n c hm⟩
  refine h (hideAll s.heap (news.map (·.1))) s.heap.objs.size h₁ tk cells (fun b o n e => hideAll_get _ e n) rfl ⟨x.toInCall.ns, fun b o e => kept b o (of_hideAll _ e), Nat.le_of_eq (hideAll_size _ _)⟩ (fun p hp => ?_) Y BG (X₀.keeps fun b o e => st b o e) (T.keeps fun b o e => st b o e) size
  rcases List.mem_append.mp hp with hp | hp
  · refine ⟨(NC p hp).1, (NC p hp).2.1, ?_⟩
    cases q : (hideAll s.heap (news.map (·.1))).get? p.1 with
    | none => rfl
    | some o => have := (NC p hp).2.2; rw [of_hideAll _ q] at this; cases this
  · exact ⟨kept _ _ (N p hp).1, Nat.ne_of_lt (size p hp), hideAll_none _ (List.mem_map_of_mem hp)⟩

/-- a call of a def of the program: the body is walked for any word Qb of its end; no raise leaves -/
theorem code_same {env : Env} {outer : List Env} {Q E : Value → Shared → Prop} {name qual : Str} {params : Arguments} {body : List Stmt} {scope : Scope} {dV kV doc pm cdv ct oc : Value} {an od : Option Addr} {osl : Array (Option Value)} {f : Addr} {pos : List Value} {kw : List (Str × Value)} {binds : List (Str × Value)}
    (B : Below A₀ base outer h₀) (F : Fr h₀ L s.heap m) (X₀ : K.In h₀) (N : News h₀ L s.heap news) (T : Top p loose mean mg mb h₀) (hA : A.frames = some (env :: outer)) (hf : env.frame = some L) (hke : env.scope.kind = .function)
    (ho : K.lookup f = some ⟨oc, od, .func (fnOf name qual params body scope dV kV doc pm an cdv ct), osl⟩) (hcd : codeIn K cdv qual = true) (hroom : A.depth < recursionLimit)
    (hbind : BindsTo s (fnOf name qual params body scope dV kV doc pm an cdv ct) ⟨pos, kw⟩ binds) (hloc : ∀ y ∈ binds, scope.names.lookup y.1 = some .local)
    (h : ∀ g L' h₁ (Qb : Flow → Shared → Prop), (∀ b o, b ∉ news.map (·.1) → s.heap.get? b = some o → g.get? b = some o) → L' = s.heap.objs.size → (∀ v s', Q v s' → Qb (.ret v) s') → (∀ s', Q .none s' → Qb .next s') → Fr g L' h₁ (fun y => binds.reverse.lookup y) → News g L' h₁ news → Below A base (env :: outer) g → K.In g → Top p loose mean mg mb g →
      wpAny (model prog w) (A.deeper (envOf qual scope L' f cdv)) (execs body (envOf qual scope L' f cdv)) Qb NoE { s with heap := h₁, toks := s.toks + binds.length })
    (hco : scope.isCoroutine = false) (hgen : scope.isGenerator = false) (hk : scope.kind = .function)
    (hcell : ∀ x ∈ scope.names, x.2 ≠ .cell) : wpAny (model prog w) A (call (.ref f) pos kw) Q E s :=
  wpAny_call (code_sameR B F X₀ N T hA hf hke ho hcd hroom hbind hloc (fun g L' h₁ a b F' N' B' X' T' =>
    wpAny_mono (h g L' h₁ (fun fl s' => Q (match fl with | .ret v => v | _ => .none) s') a b (fun _ _ q => q) (fun _ q => q) F' N' B' X' T') (fun _ _ q => q) fun _ _ e => e.elim) hco hgen hk hcell)
theorem code_sameC {env : Env} {outer : List Env} {Q E : Value → Shared → Prop} {name qual : Str} {params : Arguments} {body : List Stmt} {scope : Scope} {dV kV doc pm cdv ct oc : Value} {an od : Option Addr} {osl : Array (Option Value)} {f : Addr} {pos : List Value} {kw : List (Str × Value)} {binds : List (Str × Value)}
    (B : Below A₀ base outer h₀) (F : Fr h₀ L s.heap m) (X₀ : K.In h₀) (N : News h₀ L s.heap news) (T : Top p loose mean mg mb h₀) (hA : A.frames = some (env :: outer)) (hf : env.frame = some L) (hke : env.scope.kind = .function)
    (ho : K.lookup f = some ⟨oc, od, .func (fnOf name qual params body scope dV kV doc pm an cdv ct), osl⟩) (hcd : codeIn K cdv qual = true) (hroom : A.depth < recursionLimit)
    (hbind : BindsTo s (fnOf name qual params body scope dV kV doc pm an cdv ct) ⟨pos, kw⟩ binds) (hkind : (binds.all fun y => scope.names.lookup y.1 == some .local || scope.names.lookup y.1 == some .cell) = true)
    (hnd : ((cellsFrom 0 scope.names []).map (·.1)).Nodup)
    (h : ∀ g L' h₁ tk cells (Qb : Flow → Shared → Prop), (∀ b o, b ∉ news.map (·.1) → s.heap.get? b = some o → g.get? b = some o) → L' = s.heap.objs.size → (∀ v s', Q v s' → Qb (.ret v) s') → (∀ s', Q .none s' → Qb .next s') → Fr g L' h₁ (bindL (envOfC qual scope L' f cdv).kindOf binds fun _ => none) → News g L' h₁ (cells ++ news) →
      CellsAre (bindC (envOfC qual scope L' f cdv).kindOf binds fun _ => none) (cellsFrom (L' + 1) scope.names []) cells → Below A base (env :: outer) g → K.In g → Top p loose mean mg mb g → (∀ p ∈ news, p.1 < L') →
      wpAny (model prog w) (A.deeper (envOfC qual scope L' f cdv)) (execs body (envOfC qual scope L' f cdv)) Qb NoE { s with heap := h₁, toks := tk })
    (hco : scope.isCoroutine = false) (hgen : scope.isGenerator = false) (hk : scope.kind = .function) : wpAny (model prog w) A (call (.ref f) pos kw) Q E s :=
  wpAny_call (code_sameCR B F X₀ N T hA hf hke ho hcd hroom hbind hkind hnd (fun g L' h₁ tk cells a b F' N' C' B' X' T' lt =>
    wpAny_mono (h g L' h₁ tk cells (fun fl s' => Q (match fl with | .ret v => v | _ => .none) s') a b (fun _ _ q => q) (fun _ q => q) F' N' C' B' X' T' lt) (fun _ _ q => q) fun _ _ e => e.elim) hco hgen hk)

/-- the heap at a callee's end, seen from the call -/
theorem same_end {g h h' : Heap} {L' : Addr} {m' : Str → Option Value} {news news' : List (Addr × Obj)} (mu : List Addr)
    (hg : ∀ b o, b ∉ news.map (·.1) → h.get? b = some o → g.get? b = some o) (F' : Fr g L' h' m') (N' : News g L' h' news')
    (N : ∀ p ∈ news, h.get? p.1 = some p.2) (hs : ∀ p ∈ news, p.1 ∈ mu ∨ p ∈ news') : Same mu h h' := by
  intro b o hb e
  by_cases q : b ∈ news.map (·.1)
  · obtain ⟨p, hp, rfl⟩ := List.mem_map.mp q
    rcases hs p hp with r | r
    · exact absurd r hb
    · have := N p hp; rw [e] at this; cases this
      exact (N' p r).1
  · exact F'.keep b o (hg b o q e)
theorem same_end0 {g h h' : Heap} {L' L₀ : Addr} {h₀ : Heap} {m' : Str → Option Value} {news : List (Addr × Obj)}
    (hg : ∀ b o, b ∉ news.map (·.1) → h.get? b = some o → g.get? b = some o) (F' : Fr g L' h' m') (N' : News g L' h' news) (N : News h₀ L₀ h news) : Same [] h h' :=
  same_end [] hg F' N' (fun p hp => (N p hp).1) fun _ hp => .inr hp
theorem same_end1 {g h h' : Heap} {L' L₀ : Addr} {h₀ : Heap} {m' : Str → Option Value} {d : Addr} {o o' : Obj} {im : List (Addr × Obj)}
    (hg : ∀ b q, b ∉ ((d, o) :: im).map (·.1) → h.get? b = some q → g.get? b = some q) (F' : Fr g L' h' m') (N' : News g L' h' ((d, o') :: im)) (N : News h₀ L₀ h ((d, o) :: im)) : Same [d] h h' :=
  same_end [d] hg F' N' (fun p hp => (N p hp).1) fun _ hp => (List.mem_cons.mp hp).elim (fun e => .inl (by rw [e]; exact .head _)) fun q => .inr (.tail _ q)
theorem same_end2 {g h h' : Heap} {L' L₀ : Addr} {h₀ : Heap} {m' : Str → Option Value} {d e : Addr} {o o' q q' : Obj} {im : List (Addr × Obj)}
    (hg : ∀ b r, b ∉ ((d, o) :: (e, q) :: im).map (·.1) → h.get? b = some r → g.get? b = some r) (F' : Fr g L' h' m') (N' : News g L' h' ((d, o') :: (e, q') :: im)) (N : News h₀ L₀ h ((d, o) :: (e, q) :: im)) : Same [d, e] h h' :=
  same_end [d, e] hg F' N' (fun p hp => (N p hp).1) fun _ hp => (List.mem_cons.mp hp).elim (fun e => .inl (by rw [e]; exact .head _)) fun q => (List.mem_cons.mp q).elim (fun e => .inl (by rw [e]; exact .tail _ (.head _))) fun q => .inr (.tail _ (.tail _ q))
theorem same_end3 {g h h' : Heap} {L' L₀ : Addr} {h₀ : Heap} {m' : Str → Option Value} {d e f : Addr} {o o' q q' r r' : Obj} {im : List (Addr × Obj)}
    (hg : ∀ b r', b ∉ ((d, o) :: (e, q) :: (f, r) :: im).map (·.1) → h.get? b = some r' → g.get? b = some r') (F' : Fr g L' h' m') (N' : News g L' h' ((d, o') :: (e, q') :: (f, r') :: im)) (N : News h₀ L₀ h ((d, o) :: (e, q) :: (f, r) :: im)) : Same [d, e, f] h h' :=
  same_end [d, e, f] hg F' N' (fun p hp => (N p hp).1) fun _ hp => (List.mem_cons.mp hp).elim (fun e => .inl (by rw [e]; exact .head _)) fun q => (List.mem_cons.mp q).elim (fun e => .inl (by rw [e]; exact .tail _ (.head _))) fun q => (List.mem_cons.mp q).elim (fun e => .inl (by rw [e]; exact .tail _ (.tail _ (.head _)))) fun q => .inr (.tail _ (.tail _ (.tail _ q)))
end

theorem room0 {d a : Nat} (h : d + a < recursionLimit) : d < recursionLimit := Nat.lt_of_le_of_lt (Nat.le_add_right d a) h
theorem room1 {d a k : Nat} (h : d + a < recursionLimit) (hk : 1 + k ≤ a) : d + 1 + k < recursionLimit := by
  rw [Nat.add_assoc]; exact Nat.lt_of_le_of_lt (Nat.add_le_add_left hk d) h
theorem unit0 {d a : Nat} (h : d + a < cLine) : d < cLine := Nat.lt_of_le_of_lt (Nat.le_add_right d a) h
theorem unit1 {d a k : Nat} (h : d + a < cLine) (hk : 3 + k ≤ a) : d + 3 + k < cLine := by
  rw [Nat.add_assoc]; exact Nat.lt_of_le_of_lt (Nat.add_le_add_left hk d) h
theorem News.two {h₀ h : Heap} {L d e : Addr} {o q : Obj} {news : List (Addr × Obj)} (N : News h₀ L h news) (hd : (d, o) ∈ news) (he : (e, q) ∈ news) : News h₀ L h [(d, o), (e, q)] :=
  fun p hp => (List.mem_cons.mp hp).elim (fun z => z ▸ N _ hd) fun hp => (List.mem_singleton.mp hp) ▸ N _ he
theorem neGt {a b : Addr} (h : a < b) : b ≠ a := Nat.ne_of_gt h
theorem neLt {a b : Addr} (h : a < b) : a ≠ b := Nat.ne_of_lt h
/-- the ledger with one entry ahead, the rest as one list -/
inductive ImOf1 (h₀ h : Heap) (L d : Addr) (o : Obj) (news : List (Addr × Obj)) : Prop
  | mk (im : List (Addr × Obj)) (N : News h₀ L h ((d, o) :: im)) (x : ∀ p ∈ im, p.1 ≠ d) (tr : ∀ q, q ∈ news → q.1 ≠ d → q ∈ im) : ImOf1 h₀ h L d o news
theorem im_of1 {h₀ h : Heap} {L d : Addr} {o : Obj} {news : List (Addr × Obj)} (N : News h₀ L h news) (hd : (d, o) ∈ news) : ImOf1 h₀ h L d o news := by
  refine ⟨news.filter (fun p => decide (p.1 ≠ d)), fun p hp => ?_, fun p hp => ?_, fun q hq hn => ?_⟩
  · rcases List.mem_cons.mp hp with rfl | hp
    · exact N _ hd
    · exact N _ (List.mem_filter.mp hp).1
  · simpa using (List.mem_filter.mp hp).2
  · exact List.mem_filter.mpr ⟨hq, by simpa using hn⟩
/-- two entries ahead -/
inductive ImOf2 (h₀ h : Heap) (L d e : Addr) (o q : Obj) (news : List (Addr × Obj)) : Prop
  | mk (im : List (Addr × Obj)) (N : News h₀ L h ((d, o) :: (e, q) :: im)) (x : ∀ p ∈ im, p.1 ≠ d) (y : ∀ p ∈ im, p.1 ≠ e) (tr : ∀ r, r ∈ news → r.1 ≠ d → r.1 ≠ e → r ∈ im) : ImOf2 h₀ h L d e o q news
theorem im_of2 {h₀ h : Heap} {L d e : Addr} {o q : Obj} {news : List (Addr × Obj)} (N : News h₀ L h news) (hd : (d, o) ∈ news) (he : (e, q) ∈ news) : ImOf2 h₀ h L d e o q news := by
  refine ⟨news.filter (fun p => decide (p.1 ≠ d ∧ p.1 ≠ e)), fun p hp => ?_, fun p hp => ?_, fun p hp => ?_, fun r hr hn hm => ?_⟩
  · rcases List.mem_cons.mp hp with rfl | hp
    · exact N _ hd
    · rcases List.mem_cons.mp hp with rfl | hp
      · exact N _ he
      · exact N _ (List.mem_filter.mp hp).1
  · exact (of_decide_eq_true (List.mem_filter.mp hp).2).1
  · exact (of_decide_eq_true (List.mem_filter.mp hp).2).2
  · exact List.mem_filter.mpr ⟨hr, decide_eq_true ⟨hn, hm⟩⟩
/-- three entries ahead -/
inductive ImOf3 (h₀ h : Heap) (L d e f : Addr) (o q r : Obj) (news : List (Addr × Obj)) : Prop
  | mk (im : List (Addr × Obj)) (N : News h₀ L h ((d, o) :: (e, q) :: (f, r) :: im)) (x : ∀ p ∈ im, p.1 ≠ d) (y : ∀ p ∈ im, p.1 ≠ e) (z : ∀ p ∈ im, p.1 ≠ f) (tr : ∀ r, r ∈ news → r.1 ≠ d → r.1 ≠ e → r.1 ≠ f → r ∈ im) (sub : ∀ p ∈ im, p ∈ news) : ImOf3 h₀ h L d e f o q r news
theorem im_of3 {h₀ h : Heap} {L d e f : Addr} {o q r : Obj} {news : List (Addr × Obj)} (N : News h₀ L h news) (hd : (d, o) ∈ news) (he : (e, q) ∈ news) (hf : (f, r) ∈ news) : ImOf3 h₀ h L d e f o q r news := by
  refine ⟨news.filter (fun p => decide (p.1 ≠ d ∧ p.1 ≠ e ∧ p.1 ≠ f)), fun p hp => ?_, fun p hp => ?_, fun p hp => ?_, fun p hp => ?_, fun r hr hn hm hl => ?_, fun p hp => (List.mem_filter.mp hp).1⟩
  · rcases List.mem_cons.mp hp with rfl | hp
    · exact N _ hd
    · rcases List.mem_cons.mp hp with rfl | hp
      · exact N _ he
      · rcases List.mem_cons.mp hp with rfl | hp
        · exact N _ hf
        · exact N _ (List.mem_filter.mp hp).1
  · exact (of_decide_eq_true (List.mem_filter.mp hp).2).1
  · exact (of_decide_eq_true (List.mem_filter.mp hp).2).2.1
  · exact (of_decide_eq_true (List.mem_filter.mp hp).2).2.2
  · exact List.mem_filter.mpr ⟨hr, decide_eq_true ⟨hn, hm, hl⟩⟩


example : True := by (w_top off); trivial
theorem allLt_ne {d : Addr} {l : List (Addr × Obj)} (h : AllLt d l) : ∀ p ∈ l, p.1 ≠ d := fun p hp => Nat.ne_of_lt (ktn_ltOf h p hp)
theorem allIn {news : List (Addr × Obj)} {a d : Addr} {o : Obj} (h : ∀ p ∈ news, p.1 < d) (hm : (a, o) ∈ news) : a < d := h _ hm
local macro_rules | `(tactic| k_all) => `(tactic| first | assumption | exact allLt_ne (by assumption))
local macro_rules | `(tactic| ktr_room) => `(tactic| first | exact room1 (by with_reducible assumption) (by decide) | exact room0 (by with_reducible assumption))
local macro_rules | `(tactic| ktr_units) => `(tactic| first | exact unit1 (by with_reducible assumption) (by decide) | exact unit0 (by with_reducible assumption))
local macro_rules | `(tactic| k_ne) => `(tactic| first | with_reducible assumption | exact Ne.symm (by with_reducible assumption) | exact neLt (by with_reducible assumption) | exact neGt (by with_reducible assumption) | exact neLt (allIn (by with_reducible assumption) (by k_mem)) | exact neGt (allIn (by with_reducible assumption) (by k_mem)))
local macro_rules | `(tactic| k_mem) => `(tactic| ((repeat' (first | exact List.Mem.head _ | refine' List.mem_cons_of_mem _ ?_)) <;> with_reducible assumption))
local macro_rules | `(tactic| walk_at "NU in") => `(tactic| (refine' code_def ?k1 ?k2 ?k3 ?k4 ?k5 ?kA ?kF ?kK ?k6 ?k7 ?k8 ?k9 ?kB ?_ ?c2 ?c3 ?c4 ?c5; (case kA => exact rfl); (case kF => exact rfl); (case kK => first | exact rfl | assumption); (case k1 => k_asm); (case k2 => k_asm); (case k3 => k_asm); (case k4 => k_asm); (case k5 => k_asm); (case k6 => k_is); (case k7 => k_is); (case k8 => ktr_room); (case k9 => exact BindsTo.of_eq rfl); (case c5 => decide); (case kB => exact locs rfl); (case c2 => exact rfl); (case c3 => exact rfl); (case c4 => exact rfl); k_whole; intro g' L' h' FG' F' N' B' X' T'; (try dsimp only); (try k_lift B'); (try k_fold)))
local macro_rules | `(tactic| walk_at "call ref") => `(tactic| (k_here; k_dflt (refine wpAny_call ?_; walk_at "NU in")))
local macro_rules | `(tactic| walk_at $s:str) => `(tactic| k_extra $s)
example : True := by
  (k_with "call ref" => (k_here; (first | (with_reducible show wpAny _ _ (call (Value.ref 207) _ _) _ _ _) | (with_reducible show wpAny _ _ (call (Value.ref 214) _ _) _ _ _) | (with_reducible show wpAny _ _ (call (Value.ref 28) _ _) _ _ _) | (with_reducible show wpAny _ _ (call (Value.ref 35) _ _) _ _ _) | (with_reducible show wpAny _ _ (call (Value.ref 42) _ _) _ _ _) | (with_reducible show wpAny _ _ (call (Value.ref 49) _ _) _ _ _) | (with_reducible show wpAny _ _ (call (Value.ref 56) _ _) _ _ _) | (with_reducible show wpAny _ _ (call (Value.ref 70) _ _) _ _ _) | (with_reducible show wpAny _ _ (call (Value.ref 91) _ _) _ _ _) | (with_reducible show wpAny _ _ (call (Value.ref 112) _ _) _ _ _) | (with_reducible show wpAny _ _ (call (Value.ref 119) _ _) _ _ _) | (with_reducible show wpAny _ _ (call (Value.ref 126) _ _) _ _ _) | (with_reducible show wpAny _ _ (call (Value.ref 140) _ _) _ _ _) | (with_reducible show wpAny _ _ (call (Value.ref 242) _ _) _ _ _) | (with_reducible show wpAny _ _ (call (Value.ref 247) _ _) _ _ _) | (with_reducible show wpAny _ _ (call (Value.ref 254) _ _) _ _ _) | (with_reducible show wpAny _ _ (call (Value.ref 261) _ _) _ _ _) | (with_reducible show wpAny _ _ (call (Value.ref 268) _ _) _ _ _) | (with_reducible show wpAny _ _ (call (Value.ref 275) _ _) _ _ _) | (with_reducible show wpAny _ _ (call (Value.ref 280) _ _) _ _ _) ); refine hold ?_))
  (k_with "NU enter" => (refine' code_same ?k1 ?k2 ?k3 ?k4 ?k5 ?kA ?kF ?kK ?k6 ?k7 ?k8 ?k9 ?kB ?_ ?c2 ?c3 ?c4 ?c5; (case kA => exact rfl); (case kF => exact rfl); (case kK => assumption); (case k1 => k_asm); (case k2 => k_asm); (case k3 => k_asm); (case k4 => k_asm); (case k5 => k_asm); (case k6 => k_is); (case k7 => k_is); (case k8 => ktr_room); (case k9 => exact BindsTo.of_eq rfl); (case c5 => decide); (case kB => exact locs rfl); (case c2 => exact rfl); (case c3 => exact rfl); (case c4 => exact rfl); k_whole))
  trivial
example (P : Params) (h : Heap) (X : (hd.heap_39 P).In h) : PySem.Challenge.rw_nu0327_01.prog = PySem.Challenge.rw_nu0327_01.prog ∧ (hd.heap_39 P).In h := by k_fill; exact ⟨rfl, X⟩
example : True := by
  (k_with "setItem ref int" => (k_here; k_dflt (refine' setItem_K PyProof.V.same_int (intKind_is _ _ _ _) ?v ?F ?N ?U ?d ?f ?_ ?z; (case F => k_asm); (case N => k_asm); (case U => k_updF); (case d => k_asm); (case f => k_asm); (case z => (rw [sizeLine_eq]; omega)); (case v => k_flat)); intro _ _ _ N'; (try dsimp only at N'); revert N'; intro _ _ _; (try k_sweep)))
  (k_with "NU enterC" => (refine' code_sameC ?k1 ?k2 ?k3 ?k4 ?k5 ?kA ?kF ?kK ?k6 ?k7 ?k8 ?k9 ?kB ?kD ?_ ?c2 ?c3 ?c4; (case kA => exact rfl); (case kF => exact rfl); (case kK => assumption); (case k1 => k_asm); (case k2 => k_asm); (case k3 => k_asm); (case k4 => k_asm); (case k5 => k_asm); (case k6 => k_is); (case k7 => k_is); (case k8 => ktr_room); (case k9 => exact BindsTo.of_eq rfl); (case kB => exact rfl); (case kD => decide +kernel); (case c2 => exact rfl); (case c3 => exact rfl); (case c4 => exact rfl); k_whole))
  trivial

abbrev pw := PySem.Challenge.pw_nu0327_01
abbrev TopH (mean : ExcName → Option Value) (mg mb : Str → Option Value) (h : Heap) : Prop := Top vw (looseW vw []) mean mg mb h

/-- an object that is a dict of words: place k holds W k -/
structure MemIs (w : World) (o : Obj) (W : Int → Int) : Prop where
  is : ∃ kvs D, o.IsDictOf (intKind pw w) kvs ∧ FlatPairs PyData.int kvs D ∧ (∀ k, (lookup (.int k) D).getD (.int 0) = .int (W k)) ∧ ∀ p ∈ kvs, 0 ≤ p.1 ∧ p.1 < 2048

theorem nodup_fit : ∀ (n : Nat) (l : List Int), l.Nodup → (∀ x ∈ l, 0 ≤ x ∧ x < (n : Int)) → l.length ≤ n := by
  intro n
  induction n with
  | zero =>
    intro l _ h
    cases l with
    | nil => exact Nat.le_refl _
    | cons a r => have := h a (.head _); omega
  | succ n ih =>
    intro l hn h
    have h1 := ih (l.erase (n : Int)) (hn.erase _) (fun x hx => by
      have h2 := h x (List.mem_of_mem_erase hx)
      have h3 : x ≠ (n : Int) := fun e => by
        rw [e] at hx
        exact (List.Nodup.not_mem_erase hn) hx
      omega)
    have h4 := List.length_erase_le (a := (n : Int)) (l := l)
    by_cases hm : (n : Int) ∈ l
    · have := List.length_erase_of_mem hm; omega
    · rw [List.erase_of_not_mem hm] at h1; omega

def upd (W : Int → Int) (k v : Int) : Int → Int := fun x => if x = k then v else W x

theorem MemIs.size {w : World} {kvs : List (Int × Value)} {D : List (PyData × PyData)} {o : Obj} (hd : o.IsDictOf (intKind pw w) kvs) (hf : FlatPairs PyData.int kvs D) (hk : ∀ p ∈ kvs, 0 ≤ p.1 ∧ p.1 < 2048) : D.length ≤ 2048 := by
  obtain ⟨_, _, _, _, _, _, hn⟩ := hd
  rw [hf.length]
  have := nodup_fit 2048 (kvs.map (·.1)) hn (fun x hx => by
    obtain ⟨p, hp, rfl⟩ := List.mem_map.mp hx
    exact hk p hp)
  rwa [List.length_map] at this

theorem stored_keys {kvs : List (Int × Value)} {k : Int} {v : Value} (hk : ∀ p ∈ kvs, 0 ≤ p.1 ∧ p.1 < 2048) (h0 : 0 ≤ k) (h1 : k < 2048) : ∀ p ∈ stored kvs k v, 0 ≤ p.1 ∧ p.1 < 2048 := by
  intro p hp
  unfold stored at hp
  split at hp
  · obtain ⟨q, hq, rfl⟩ := List.mem_map.mp hp
    have := hk q hq
    by_cases e : q.1 = k
    · simp only [e, if_true]; omega
    · simp only [e, if_false]; exact this
  · rcases List.mem_append.mp hp with hp | hp
    · exact hk p hp
    · rw [List.mem_singleton.mp hp]; exact ⟨h0, h1⟩

theorem MemIs.put {w : World} {kvs : List (Int × Value)} {D : List (PyData × PyData)} {o' : Obj} {W : Int → Int} {k x : Int} {v : Value}
    (hW : ∀ k, (lookup (.int k) D).getD (.int 0) = .int (W k)) (hk : ∀ p ∈ kvs, 0 ≤ p.1 ∧ p.1 < 2048) (h0 : 0 ≤ k) (h1 : k < 2048)
    (hd : o'.IsDictOf (intKind pw w) (stored kvs k v)) (hf : FlatPairs PyData.int (stored kvs k v) (putD (.int k) (.int x) D)) : MemIs w o' (upd W k x) :=
  ⟨_, _, hd, hf, fun j => by
    rw [lookup_putD_int]
    unfold upd
    by_cases e : j = k
    · simp [e]
    · simp only [e, if_false]; exact hW j, stored_keys hk h0 h1⟩

abbrev memObj (dm : Addr) : Obj := instObj 231 dm
abbrev memDict (h1 : Int) (k1 t1 : Tok) (h2 : Int) (k2 : Tok) (wd : Addr) (n : Nat) : Obj := dictOf [⟨h1, .str "size" k1, .int 8192 t1⟩, ⟨h2, .str "words" k2, .ref wd⟩] n

section
variable {w : World} {mean : ExcName → Option Value} {mg mb : Str → Option Value} {dp un : Nat} {gd : Option (List Code)} {cn : Str} {cs : Scope} {a : Addr} {ccd : Value} {cl : List (Str × Addr)} {outer : List Env} {A₀ : Around} {base h₀ : Heap} {L : Addr} {m : Str → Option Value} {s : Shared}
  {news : List (Addr × Obj)} {xm dm wd : Addr} {z1 z2 : Int} {k1 k2 t1 : Tok} {n : Nat} {o : Obj} {W : Int → Int}
set_option maxHeartbeats 8000000 in
theorem word_ok {x : Int} {t : Tok} {Q E : Value → Shared → Prop}
    (B : Below A₀ base outer h₀) (F : Fr h₀ L s.heap m) (X : (hd.heap_39 w.params).In h₀) (T : TopH mean mg mb h₀) (hk : cs.kind = .function) (hd : dp + 4 < recursionLimit) (hu : un + 40 < cLine)
    (N : News h₀ L s.heap news) (i1 : (xm, memObj dm) ∈ news) (i2 : (dm, memDict z1 k1 t1 z2 k2 wd n) ∈ news) (i3 : (wd, o) ∈ news) (hlo : (wd == sysModules) = false) (hM : MemIs w o W)
    (h0 : 0 ≤ x) (h1 : x < 8192)
    (ret : ∀ t h' tk', Same [] s.heap h' → Q (.int (W (x / 4)) t) { s with heap := h', toks := tk' }) :
    wpAny (model pw w) (ktrTop dp un gd cn cs L a ccd cl outer) (call (.ref 207) [.ref xm, .int x t]) Q E s := by
  obtain ⟨kvs, D, hd1, hf1, hW1, hk1⟩ := hM.is
  replace N : News h₀ L s.heap [(xm, memObj dm), (dm, memDict z1 k1 t1 z2 k2 wd n), (wd, o)] := fun p hp => by
    rcases List.mem_cons.mp hp with rfl | hp
    · exact N _ i1
    rcases List.mem_cons.mp hp with rfl | hp
    · exact N _ i2
    rw [List.mem_singleton.mp hp]; exact N _ i3
  k_dflt walk_at "NU enter"
  intro g' L' h' Qb hg' hL' hQ hQn F' N' B' X' T'
  (try dsimp only); (try k_lift B'); (try k_fold)
  k_steps
  rename Fr _ _ _ _ => F9
  rename News _ _ _ _ => N9
  rename Flat _ _ => f9
  rw [hW1] at f9
  obtain ⟨t9, rfl⟩ := Flat.int_inv f9
  have e4 : x.fdiv 4 = x / 4 := Int.fdiv_eq_ediv_of_nonneg _ (by decide)
  rw [e4]
  exact hQ _ _ (ret _ _ _ (same_end0 hg' F9 N9 N))

set_option maxHeartbeats 8000000 in
theorem put_word_ok {x v : Int} {t tv : Tok} {Q E : Value → Shared → Prop}
    (B : Below A₀ base outer h₀) (F : Fr h₀ L s.heap m) (X : (hd.heap_39 w.params).In h₀) (T : TopH mean mg mb h₀) (hk : cs.kind = .function) (hd : dp + 4 < recursionLimit) (hu : un + 40 < cLine)
    (N : News h₀ L s.heap news) (i1 : (xm, memObj dm) ∈ news) (i2 : (dm, memDict z1 k1 t1 z2 k2 wd n) ∈ news) (i3 : (wd, o) ∈ news) (hlo : (wd == sysModules) = false) (hM : MemIs w o W)
    (n1 : xm ≠ wd) (n2 : dm ≠ wd) (h0 : 0 ≤ x) (h1 : x < 8192)
    (ret : ∀ h' tk' o', Same [wd] s.heap h' → h'.get? wd = some o' → MemIs w o' (upd W (x / 4) (v % 4294967296)) → Q .none { s with heap := h', toks := tk' }) :
    wpAny (model pw w) (ktrTop dp un gd cn cs L a ccd cl outer) (call (.ref 214) [.ref xm, .int x t, .int v tv]) Q E s := by
  obtain ⟨kvs, D, hd1, hf1, hW1, hk1⟩ := hM.is
  have hsz := MemIs.size hd1 hf1 hk1
  replace N : News h₀ L s.heap [(xm, memObj dm), (dm, memDict z1 k1 t1 z2 k2 wd n), (wd, o)] := fun p hp => by
    rcases List.mem_cons.mp hp with rfl | hp
    · exact N _ i1
    rcases List.mem_cons.mp hp with rfl | hp
    · exact N _ i2
    rw [List.mem_singleton.mp hp]; exact N _ i3
  replace n1 := neN n1
  replace n2 := neN n2
  k_dflt walk_at "NU enter"
  intro g' L' h' Qb hg' hL' hQ hQn F' N' B' X' T'
  (try dsimp only); (try k_lift B'); (try k_fold)
  k_steps
  all_goals (try dsimp only)
  rename Fr _ _ _ _ => F9
  rename News _ _ _ _ => N9
  rename Obj.IsDictOf _ _ _ => d9
  rename FlatPairs _ _ _ => f9
  have e4 : x.fdiv 4 = x / 4 := Int.fdiv_eq_ediv_of_nonneg _ (by decide)
  have e5 : v.fmod 4294967296 = v % 4294967296 := Int.fmod_eq_emod_of_nonneg _ (by decide)
  rw [e4] at d9 f9
  rw [e5] at d9 f9
  refine hQn _ (ret _ _ _ (same_end [wd] hg' F9 N9 (fun p hp => (N p hp).1) (fun p hp => ?_)) (N9 _ (.tail _ (.tail _ (.head _)))).1 (MemIs.put hW1 hk1 (by omega) (by omega) d9 f9))
  rcases List.mem_cons.mp hp with rfl | hp
  · exact .inr (.head _)
  rcases List.mem_cons.mp hp with rfl | hp
  · exact .inr (.tail _ (.head _))
  rw [List.mem_singleton.mp hp]; exact .inl (.head _)
end


example : True := by (w_top off); trivial
example : True := by
  (k_with "NU same0" => (intro _ _ _ S9; (have _ := Fr.same0 (by k_asm) S9); (have _ := News.same0 (by k_asm) S9); clear S9; (try k_sweep)))
  (k_with "call ref" => (k_here; (with_reducible show wpAny _ _ (call (Value.ref 207) _ _) _ _ _); k_dflt (refine' word_ok ?B ?F ?X ?T ?hk ?hd ?hu ?N ?i1 ?i2 ?i3 ?hlo ?hM ?h0 ?h1 ?_; (case B => k_asm); (case F => k_asm); (case X => k_asm); (case T => k_asm); (case hk => first | exact rfl | assumption); (case hd => ktr_room); (case hu => ktr_units); (case N => k_asm); (case i1 => k_mem); (case i2 => k_mem); (case i3 => k_mem); (case hlo => assumption); (case hM => k_asm); (case h0 => first | decide | assumption | omega); (case h1 => first | decide | assumption | omega); k_whole; walk_at "NU same0")))
  (k_with "call ref" => (k_here; (with_reducible show wpAny _ _ (call (Value.ref 214) _ _) _ _ _); k_dflt (refine' put_word_ok ?B ?F ?X ?T ?hk ?hd ?hu ?N ?i1 ?i2 ?i3 ?hlo ?hM ?n1 ?n2 ?h0 ?h1 ?_; (case B => k_asm); (case F => k_asm); (case X => k_asm); (case T => k_asm); (case hk => first | exact rfl | assumption); (case hd => ktr_room); (case hu => ktr_units); (case N => k_asm); (case i1 => k_mem); (case i2 => k_mem); (case i3 => k_mem); (case hlo => assumption); (case hM => k_asm); (case n1 => k_ne); (case n2 => k_ne); (case h0 => first | decide | assumption | omega); (case h1 => first | decide | assumption | omega); k_whole; (intro _ _ _ S9 G9 _); (have _ := Fr.same1 (by k_asm) (by k_asm) (by k_mem) S9); (have _ := News.same1 (by k_asm) (by k_upd) S9 G9); clear S9 G9; (try k_sweep))))
  trivial
/-- what a frame's map holds at names, as one equation (rfl shows it) -/
def AllAt (m : Str → Option Value) (ps : List (Str × Value)) : Prop := ps.map (fun p => m p.1) = ps.map (fun p => some p.2)
theorem AllAt.take {m : Str → Option Value} {ps : List (Str × Value)} (n : Nat) (h : AllAt m ps) : AllAt m (ps.take n) := by
  unfold AllAt at *
  rw [List.map_take, List.map_take, h]
theorem ov_eq {m : Str → Option Value} : ∀ {ps : List (Str × Value)}, AllAt m ps → (fun y => match ps.lookup y with | some v => some v | none => m y) = m := by
  intro ps hp
  funext y
  induction ps with
  | nil => rfl
  | cons p r ih =>
    have h1 : m p.1 = some p.2 := (List.cons.inj hp).1
    have h2 : AllAt m r := (List.cons.inj hp).2
    rw [List.lookup_cons]
    by_cases q : y == p.1
    · simp only [q]
      rw [eq_of_beq q]
      exact h1.symm
    · simp only [q]
      exact ih h2
theorem fr_over {h₀ h : Heap} {L : Addr} {m : Str → Option Value} (ps : List (Str × Value)) (hp : AllAt m ps) (F : Fr h₀ L h m) :
    Fr h₀ L h (fun y => match ps.lookup y with | some v => some v | none => m y) := by
  rw [ov_eq hp]; exact F

section
variable {prog : Program} {w : World} {A : Around} {E : Value → Shared → Prop} {env : Env} {test : PySem.Expr} {body orelse : List Stmt} {Q : Flow → Shared → Prop}
theorem while_ind (J : Nat → Shared → Prop)
    (turn : ∀ n s, J n s → (∀ n' s', n' < n → J n' s' → WhlRest prog w A E env test body orelse Q 0 s') → WhlRest prog w A E env test body orelse Q (0 + 1) s) :
    ∀ n s, J n s → WhlRest prog w A E env test body orelse Q 0 s := by
  have all : ∀ N n s, n < N → J n s → WhlRest prog w A E env test body orelse Q 0 s := by
    intro N
    induction N with
    | zero => intro n s h; exact absurd h (Nat.not_lt_zero _)
    | succ N ih => exact fun n s h j => turn n s j fun n' s' h' j' => ih n' s' (Nat.lt_of_lt_of_le h' (Nat.le_of_lt_succ h)) j'
  exact fun n s j => all _ n s (Nat.lt_succ_self _) j

theorem WhlIf.up {b : Bool} {T F T' F' : Prop} (h : WhlIf b T F) (t : T → T') (f : F → F') : WhlIf b T' F' := by
  cases b with
  | true => exact WhlIf.yes rfl (t (by unfold WhlIf at h; rwa [if_pos rfl] at h))
  | false => exact WhlIf.no rfl (f (by unfold WhlIf at h; rwa [if_neg Bool.false_ne_true] at h))
/-- one turn of a while, for any word of its end -/
theorem while_turn {s : Shared} {k : Nat} (hE : PassesOwn (model prog w) A env E)
    (turn : ∀ (Wb : Flow → Shared → Prop) (Wx : Shared → Prop), (∀ s', WhlRest prog w A E env test body [] Q k s' → Wb .next s') → (∀ v s', Q (.ret v) s' → Wb (.ret v) s') → (∀ s', Q .next s' → Wx s') →
      wpAny (model prog w) A (isTrue test env (eval test env)) (fun b s₂ => WhlIf b (wpAny (model prog w) A (execs body env) Wb NoE s₂) (Wx s₂)) NoE s) :
    WhlRest prog w A E env test body [] Q (k + 1) s := by
  refine whl_turn hE (wpAny_mono (turn (WhlPost prog w A E env test body [] Q k) (fun s₂ => wpAny (model prog w) A (execs [] env) Q E s₂) (fun _ q => q) (fun _ _ q => q) fun s' q => wpAny_execs_nil q) (fun b s₂ h => ?_) fun _ _ e => e.elim)
  exact WhlIf.up h (fun q => wpAny_mono q (fun _ _ r => r) fun _ _ e => e.elim) fun q => q
/-- a while by its word J: the turn is walked for any word Wb of its end and any word Wx of the test's no -/
theorem while_walk {s : Shared} {pos : Pos} (J : Nat → Shared → Prop) (n₀ : Nat) (hE : PassesOwn (model prog w) A env E)
    (turn : ∀ n s (Wb : Flow → Shared → Prop) (Wx : Shared → Prop), J n s → (∀ n' s', n' < n → J n' s' → Wb .next s') → (∀ v s', Q (.ret v) s' → Wb (.ret v) s') → (∀ s', Q .next s' → Wx s') →
      wpAny (model prog w) A (isTrue test env (eval test env)) (fun b s₂ => WhlIf b (wpAny (model prog w) A (execs body env) Wb NoE s₂) (Wx s₂)) NoE s)
    (j : J n₀ s) : wpAny (model prog w) A (exec (.While test body [] pos) env) Q E s := by
  exact whl_start 0 (while_ind J (fun n s j IH => while_turn hE fun Wb Wx a b c => turn n s Wb Wx j (fun n' s' h q => a s' (IH n' s' h q)) b c) n₀ s j)

def ForRest (prog : Program) (w : World) (A : Around) (E : Value → Shared → Prop) (env : Env) (target : PySem.Expr) (body : List Stmt) (Q : Flow → Shared → Prop) (it : Value) (s : Shared) : Prop :=
  codeAny (model prog w) A (.forLoop target it body [] env) (fun r s' => match r with | .ok f => Q f s' | .error e => cameBackBy (model prog w) A env E e s') s
def ForPost (prog : Program) (w : World) (A : Around) (E : Value → Shared → Prop) (env : Env) (target : PySem.Expr) (body : List Stmt) (Q : Flow → Shared → Prop) (it : Value) (f : Flow) (s : Shared) : Prop :=
  match f with
  | .next => ForRest prog w A E env target body Q it s
  | .cont => ForRest prog w A E env target body Q it s
  | .brk => Q .next s
  | .ret v => Q (.ret v) s

theorem for_start {s : Shared} {target iter : PySem.Expr} {pos : Pos}
    (h : wpAny (model prog w) A (eval iter env) (fun x s₁ => wpAny (model prog w) A (pyIter x) (fun it s₂ => ForRest prog w A E env target body Q it s₂) E s₁) E s)
    (hs : ∀ x, foldedSetIterable iter env x = pure x := by intro _; rfl) :
    wpAny (model prog w) A (exec (.For target iter body [] pos) env) Q E s := wpAny_For h hs

theorem for_turn {s : Shared} {target : PySem.Expr} {it : Value} (hE : PassesOwn (model prog w) A env E)
    (h : wpAny (model prog w) A (pyNext it) (fun r s₁ => match r with
      | none => Q .next s₁
      | some v => wpAny (model prog w) A (letOwnedTupleGo target it v) (fun _ s₂ => wpAny (model prog w) A (assign target env v) (fun _ s₃ => wpAny (model prog w) A (execs body env) (ForPost prog w A E env target body Q it) E s₃) E s₂) E s₁) E s) :
    ForRest prog w A E env target body Q it s := by
  refine codeAny_of_tree ?_
  show wpAny _ A ((forTurn target it body [] env).onRaise (fun x => do noteFrame x env; theTreesLotGoes x)) _ _ s
  refine wpAny_noted ?_
  simp only [forTurn]
  refine wpAny_bind (wpAny_standAt (wpAny_bind (wpAny_onRaise (wpAny_mono h (fun r s₁ h₁ => ?_) fun e s' h' => wpAny_standAt (hE _ _ h')))))
  cases r with
  | none => exact wpAny_pure ⟨rfl, codeAny_of_tree (by
      show wpAny _ _ ((do return Fin.done (← (execs [] env).onRaise (fun x => do noteFrame x env; theTreesLotGoes x))) : Sem Fin) _ _ _
      refine wpAny_bind (wpAny_onRaise (wpAny_execs_nil (wpAny_pure h₁)))) ⟩
  | some v =>
    refine wpAny_bind (wpAny_mono h₁ (fun _ s₂ h₂ => wpAny_bind (wpAny_mono h₂ (fun _ s₃ h₃ => wpAny_bind (wpAny_mono h₃ (fun f s₄ h₄ => ?_) hE)) hE)) hE)
    cases f with
    | next => exact wpAny_pure ⟨rfl, h₄⟩
    | cont => exact wpAny_pure ⟨rfl, h₄⟩
    | brk => exact wpAny_pure h₄
    | ret v => exact wpAny_pure h₄
end


example : True := by (w_top off); trivial
inductive FEnd (h₀ : Heap) (L : Addr) (J : (Str → Option Value) → List (Addr × Obj) → Prop) (I : Addr) (oI : Obj) (s₁ : Shared) : Shared → Prop
  | mk {h' : Heap} {tk' : Nat} {m' : Str → Option Value} {nw' : List (Addr × Obj)} (F : Fr h₀ L h' m') (N : News h₀ L h' ((I, oI) :: nw')) (hn : I ∉ nw'.map (·.1)) (j : J m' nw') : FEnd h₀ L J I oI s₁ { s₁ with heap := h', toks := tk' }
theorem off_map {I : Addr} {nw : List (Addr × Obj)} (h : I ∉ nw.map (·.1)) : ∀ p ∈ nw, p.1 ≠ I := fun p hp e => h (e ▸ List.mem_map_of_mem hp)
theorem map_off {I : Addr} {nw : List (Addr × Obj)} (h : ∀ p ∈ nw, p.1 ≠ I) : I ∉ nw.map (·.1) := fun q => by
  obtain ⟨p, hp, e⟩ := List.mem_map.mp q
  exact h p hp e
def FPost (h₀ : Heap) (L : Addr) (J : (Str → Option Value) → List (Addr × Obj) → Prop) (I : Addr) (oI : Obj) (s₁ : Shared) (Q : Flow → Shared → Prop) (f : Flow) (s' : Shared) : Prop :=
  match f with
  | .next => FEnd h₀ L J I oI s₁ s'
  | .cont => FEnd h₀ L J I oI s₁ s'
  | .brk => Q .next s'
  | .ret v => Q (.ret v) s'

theorem letGo_listiter {M : Model} {A : Around} {E : Value → Shared → Prop} {target : PySem.Expr} {I t : Addr} {i : Nat} {v : Value} {Q' : Unit → Shared → Prop} {s' : Shared} (hit : s'.heap.IsListIter I t i) (h : Q' () s') :
    wpAny M A (letOwnedTupleGo target (.ref I) v) Q' E s' := by
  obtain ⟨o, ho, hc, hd⟩ := hit
  unfold letOwnedTupleGo
  cases target <;> first
    | exact wpAny_pure h
    | (cases v <;> first
        | exact wpAny_pure h
        | (refine wpAny_bind (wpAny_load ho ?_)
           rw [hc, hd]
           exact wpAny_pure h))

section
variable {prog : Program} {w : World} {A : Around} {E : Value → Shared → Prop} {env : Env} {body : List Stmt} {Q : Flow → Shared → Prop} {s : Shared} {target : PySem.Expr} {h₀ : Heap} {L : Addr} {m : Str → Option Value} {news : List (Addr × Obj)}

theorem for_walk {I : Addr} {fp : List Addr} {n : Nat} {P : Nat → Value → Prop} {St : Nat → Heap → Prop} (J : Nat → (Str → Option Value) → List (Addr × Obj) → Prop)
    (W : Walks prog w A I fp [I] n P St) (hE : PassesOwn (model prog w) A env E) (hIL : I ≠ L) (hI : h₀.get? I = none)
    (hob : ∀ i h, St i h → ∃ o, h.get? I = some o) (hfp : ∀ b ∈ fp, b ≠ I → (∃ o, ∀ i m' nw, J i m' nw → (b, o) ∈ nw) ∨ ∃ o, h₀.get? b = some o)
    (hgo : ∀ i (s' : Shared) v (Q' : Unit → Shared → Prop), St i s'.heap → Q' () s' → wpAny (model prog w) A (letOwnedTupleGo target (.ref I) v) Q' E s')
    (turn : ∀ i v m₁ nw h tk oI (Wb : Flow → Shared → Prop), i < n → P i v → J i m₁ nw → I ∉ nw.map (·.1) → Fr h₀ L h m₁ → News h₀ L h ((I, oI) :: nw) → (∀ s', FEnd h₀ L (J (i + 1)) I oI { s with heap := h, toks := tk } s' → Wb .next s') → (∀ v s', Q (.ret v) s' → Wb (.ret v) s') →
      wpAny (model prog w) A (assign target env v) (fun _ s₃ => wpAny (model prog w) A (execs body env) Wb NoE s₃) NoE { s with heap := h, toks := tk })
    (done : ∀ m₁ nw h tk, J n m₁ nw → Fr h₀ L h m₁ → News h₀ L h nw → Q .next { s with heap := h, toks := tk })
    (hst : St 0 s.heap) (F : Fr h₀ L s.heap m) (N : News h₀ L s.heap news) (hnI : ∀ p ∈ news, p.1 ≠ I) (j0 : J 0 m news) :
    ForRest prog w A E env target body Q (.ref I) s := by
  have all : ∀ k i h tk m₁ nw, n - i = k → i ≤ n → St i h → Fr h₀ L h m₁ → News h₀ L h nw → (∀ p ∈ nw, p.1 ≠ I) → J i m₁ nw → ForRest prog w A E env target body Q (.ref I) { s with heap := h, toks := tk } := by
    intro k
    induction k with
    | zero =>
      intro i h tk m₁ nw hk hi st F N hn j
      have e : i = n := by omega
      subst e
      refine for_turn hE (W.done _ _ _ st fun h' tk' S => ?_)
      refine done m₁ nw h' tk' j (Fr.same (mu := [I]) F S fun b hb => by rw [List.mem_singleton.mp hb]; exact ⟨hIL, hI⟩) fun p hp => ⟨S _ _ (fun q => hn p hp (List.mem_singleton.mp q)) (N p hp).1, (N p hp).2⟩
    | succ k ih =>
      intro i h tk m₁ nw hk hi st F N hn j
      have lt : i < n := by omega
      refine for_turn hE (W.item i _ _ _ lt st fun v h' tk' hP st' S => ?_)
      have F' := Fr.same (mu := [I]) F S fun b hb => by rw [List.mem_singleton.mp hb]; exact ⟨hIL, hI⟩
      obtain ⟨oI, hoI⟩ := hob _ _ st'
      have N' : News h₀ L h' ((I, oI) :: nw) := fun p hp => by
        rcases List.mem_cons.mp hp with rfl | hp
        · exact ⟨hoI, hIL, hI⟩
        · exact ⟨S _ _ (fun q => hn p hp (List.mem_singleton.mp q)) (N p hp).1, (N p hp).2⟩
      refine hgo _ _ _ _ st' ?_
      refine wpAny_mono (turn i v m₁ nw h' tk' oI (FPost h₀ L (J (i + 1)) I oI { s with heap := h', toks := tk' } Q) lt hP j (map_off hn) F' N' (fun _ q => q) fun _ _ q => q) (fun _ s₃ h₃ => wpAny_mono h₃ (fun f s₄ h₄ => ?_) fun _ _ e => e.elim) fun _ _ e => e.elim
      have fin : FEnd h₀ L (J (i + 1)) I oI { s with heap := h', toks := tk' } s₄ → ForRest prog w A E env target body Q (.ref I) s₄ := by
        rintro ⟨F₅, N₅, hn₅, j₅⟩
        replace hn₅ := off_map hn₅
        refine ih (i + 1) _ _ _ _ (by omega) lt (W.frame _ _ _ st' fun b hb o e => ?_) F₅ (fun p hp => N₅ p (.tail _ hp)) hn₅ j₅
        by_cases q : b = I
        · subst q
          rw [hoI] at e; cases e
          exact (N₅ _ (.head _)).1
        · rcases hfp b hb q with ⟨o', ho'⟩ | ⟨o', ho'⟩
          · have e1 := (N' _ (.tail _ (ho' _ _ _ j))).1
            dsimp only at e1
            rw [e] at e1; cases e1
            exact (N₅ _ (.tail _ (ho' _ _ _ j₅))).1
          · have e1 := F'.keep _ _ ho'
            rw [e] at e1; cases e1
            exact F₅.keep _ _ ho'
      cases f with
      | next => exact fin h₄
      | cont => exact fin h₄
      | brk => exact h₄
      | ret v => exact h₄
  exact all _ 0 s.heap s.toks m news rfl (Nat.zero_le _) hst F N hnI j0

theorem for_listQ {ax : Addr} {vs : List Value} {nl : Nat} (J : Nat → (Str → Option Value) → List (Addr × Obj) → Prop)
    (hh : A.handled = none) (hE : PassesOwn (model prog w) A env E) (F : Fr h₀ L s.heap m) (N : News h₀ L s.heap news) (hm : (ax, listOf vs.toArray nl) ∈ news) (j0 : J 0 m news)
    (hJl : ∀ i m' nw, J i m' nw → (ax, listOf vs.toArray nl) ∈ nw)
    (turn : ∀ I i v m₁ nw h tk oI (Wb : Flow → Shared → Prop), vs[i]? = some v → J i m₁ nw → I ∉ nw.map (·.1) → (∀ p ∈ news, p.1 < I) → Fr h₀ L h m₁ → News h₀ L h ((I, oI) :: nw) → (∀ s', FEnd h₀ L (J (i + 1)) I oI { s with heap := h, toks := tk } s' → Wb .next s') → (∀ v s', Q (.ret v) s' → Wb (.ret v) s') →
      wpAny (model prog w) A (assign target env v) (fun _ s₃ => wpAny (model prog w) A (execs body env) Wb NoE s₃) NoE { s with heap := h, toks := tk })
    (done : ∀ m₁ nw h tk, J vs.length m₁ nw → Fr h₀ L h m₁ → News h₀ L h nw → Q .next { s with heap := h, toks := tk }) :
    wpAny (model prog w) A (pyIter (.ref ax)) (fun it s₂ => ForRest prog w A E env target body Q it s₂) E s := by
  have hls : s.heap.IsList ax vs.toArray := ⟨_, (N _ hm).1, rfl, _, rfl⟩
  have hne : ax ≠ s.heap.objs.size := Nat.ne_of_lt (Heap.lt_size (N _ hm).1)
  refine wpAny_pyIter_list hls ?_
  have W := Walks.list (prog := prog) (w := w) hh s.heap.objs.size ax hne vs.toArray
  have off : ∀ p ∈ news, p.1 ≠ s.heap.objs.size := fun p hp => Nat.ne_of_lt (Heap.lt_size (N p hp).1)
  refine for_walk (s := { s with heap := s.heap.push { cls := .type "list_iterator", data := .fields #[.ref ax, .int 0 0] } }) (n := vs.toArray.size) J W hE (Nat.ne_of_gt F.ns.lt) (next_is_new F) (fun i h st => ?_) (fun b hb q => ?_) (fun i s' v Q' st q => letGo_listiter st.1 q)
    (fun i v m₁ nw h tk oI Wb lt hP j hn F' N' => turn _ i v m₁ nw h tk oI Wb (by simpa using hP) j hn (fun p hp => Heap.lt_size (N p hp).1) F' N') (fun m₁ nw h tk j F' N' => done m₁ nw h tk (by simpa using j) F' N')
    ⟨⟨_, Heap.get?_push_size _ rfl, rfl, rfl⟩, hls.push _⟩ (F.push _) (fun p hp => ⟨Heap.get?_push_of_some _ (N p hp).1, (N p hp).2⟩) off j0
  · obtain ⟨o, ho, _⟩ := st.1
    exact ⟨o, ho⟩
  · have e : b = ax := by
      simp only [List.mem_cons, List.not_mem_nil, or_false] at hb
      exact hb.resolve_left q
    subst e
    exact .inl ⟨_, hJl⟩

/-- a for over a list of the base -/
theorem for_listBQ {ax : Addr} {vs : List Value} {nl : Nat} (J : Nat → (Str → Option Value) → List (Addr × Obj) → Prop)
    (hh : A.handled = none) (hE : PassesOwn (model prog w) A env E) (F : Fr h₀ L s.heap m) (N : News h₀ L s.heap news) (hm : h₀.get? ax = some (listOf vs.toArray nl)) (j0 : J 0 m news)
    (turn : ∀ I i v m₁ nw h tk oI (Wb : Flow → Shared → Prop), vs[i]? = some v → J i m₁ nw → I ∉ nw.map (·.1) → (∀ p ∈ news, p.1 < I) → Fr h₀ L h m₁ → News h₀ L h ((I, oI) :: nw) → (∀ s', FEnd h₀ L (J (i + 1)) I oI { s with heap := h, toks := tk } s' → Wb .next s') → (∀ v s', Q (.ret v) s' → Wb (.ret v) s') →
      wpAny (model prog w) A (assign target env v) (fun _ s₃ => wpAny (model prog w) A (execs body env) Wb NoE s₃) NoE { s with heap := h, toks := tk })
    (done : ∀ m₁ nw h tk, J vs.length m₁ nw → Fr h₀ L h m₁ → News h₀ L h nw → Q .next { s with heap := h, toks := tk }) :
    wpAny (model prog w) A (pyIter (.ref ax)) (fun it s₂ => ForRest prog w A E env target body Q it s₂) E s := by
  have hls : s.heap.IsList ax vs.toArray := ⟨_, F.keep _ _ hm, rfl, _, rfl⟩
  have hne : ax ≠ s.heap.objs.size := Nat.ne_of_lt (Heap.lt_size (F.keep _ _ hm))
  refine wpAny_pyIter_list hls ?_
  have W := Walks.list (prog := prog) (w := w) hh s.heap.objs.size ax hne vs.toArray
  have off : ∀ p ∈ news, p.1 ≠ s.heap.objs.size := fun p hp => Nat.ne_of_lt (Heap.lt_size (N p hp).1)
  refine for_walk (s := { s with heap := s.heap.push { cls := .type "list_iterator", data := .fields #[.ref ax, .int 0 0] } }) (n := vs.toArray.size) J W hE (Nat.ne_of_gt F.ns.lt) (next_is_new F) (fun i h st => ?_) (fun b hb q => ?_) (fun i s' v Q' st q => letGo_listiter st.1 q)
    (fun i v m₁ nw h tk oI Wb lt hP j hn F' N' => turn _ i v m₁ nw h tk oI Wb (by simpa using hP) j hn (fun p hp => Heap.lt_size (N p hp).1) F' N') (fun m₁ nw h tk j F' N' => done m₁ nw h tk (by simpa using j) F' N')
    ⟨⟨_, Heap.get?_push_size _ rfl, rfl, rfl⟩, hls.push _⟩ (F.push _) (fun p hp => ⟨Heap.get?_push_of_some _ (N p hp).1, (N p hp).2⟩) off j0
  · obtain ⟨o, ho, _⟩ := st.1
    exact ⟨o, ho⟩
  · have e : b = ax := by
      simp only [List.mem_cons, List.not_mem_nil, or_false] at hb
      exact hb.resolve_left q
    subst e
    exact .inr ⟨_, hm⟩

theorem for_rangeQ {r : Addr} {a₀ b₀ c₀ : Int} {t₀ u₀ v₀ : Tok} {n : Nat} {x : Str} {px : Pos} (J : Nat → (Str → Option Value) → List (Addr × Obj) → Prop)
    (hh : A.handled = none) (hE : PassesOwn (model prog w) A env E) (hr : IsRange s.heap r a₀ b₀ c₀ t₀ u₀ v₀) (hsmall : Builtin.Range.small a₀ b₀ c₀ = true) (hn : Builtin.Range.rangeSize a₀ b₀ c₀ = (n : Int))
    (F : Fr h₀ L s.heap m) (N : News h₀ L s.heap news) (j0 : J 0 m news)
    (turn : ∀ I (i : Nat) t m₁ nw h tk oI (Wb : Flow → Shared → Prop), i < n → J i m₁ nw → I ∉ nw.map (·.1) → (∀ p ∈ news, p.1 < I) → Fr h₀ L h m₁ → News h₀ L h ((I, oI) :: nw) → (∀ s', FEnd h₀ L (J (i + 1)) I oI { s with heap := h, toks := tk } s' → Wb .next s') → (∀ v s', Q (.ret v) s' → Wb (.ret v) s') →
      wpAny (model prog w) A (assign (.Name x px) env (.int (a₀ + (i : Int) * c₀) t)) (fun _ s₃ => wpAny (model prog w) A (execs body env) Wb NoE s₃) NoE { s with heap := h, toks := tk })
    (done : ∀ m₁ nw h tk, J n m₁ nw → Fr h₀ L h m₁ → News h₀ L h nw → Q .next { s with heap := h, toks := tk }) :
    wpAny (model prog w) A (pyIter (.ref r)) (fun it s₂ => ForRest prog w A E env (.Name x px) body Q it s₂) E s := by
  refine wpAny_pyIter_range hr hsmall ?_
  have W := Walks.range (prog := prog) (w := w) hh s.heap.objs.size a₀ c₀ n
  have off : ∀ p ∈ news, p.1 ≠ s.heap.objs.size := fun p hp => Nat.ne_of_lt (Heap.lt_size (N p hp).1)
  refine for_walk (s := { s with heap := s.heap.push { cls := .type "range_iterator", data := .fields #[rawInt a₀, rawInt (Builtin.Range.rangeSize a₀ b₀ c₀), rawInt c₀] } }) J W hE (Nat.ne_of_gt F.ns.lt) (next_is_new F) (fun i h st => ⟨_, st⟩)
    (fun b hb q => absurd (List.mem_singleton.mp hb) q) (fun i s' v Q' st q => wpAny_pure q)
    (fun i v m₁ nw h tk oI Wb lt hP j hn' F' N' hJ hR => ?_) done ?_ (F.push _) (fun p hp => ⟨Heap.get?_push_of_some _ (N p hp).1, (N p hp).2⟩) off j0
  · obtain ⟨t, rfl⟩ := hP
    exact turn _ i t m₁ nw h tk oI Wb lt j hn' (fun p hp => Heap.lt_size (N p hp).1) F' N' hJ hR
  · show IsRangeIter _ _ _ _ _
    rw [hn]
    simpa using Heap.get?_push_size _ rfl
theorem for_list {ax : Addr} {vs : List Value} {nl : Nat} (J : Nat → (Str → Option Value) → List (Addr × Obj) → Prop)
    (hh : A.handled = none) (hE : PassesOwn (model prog w) A env E) (F : Fr h₀ L s.heap m) (N : News h₀ L s.heap news) (hm : (ax, listOf vs.toArray nl) ∈ news) (j0 : J 0 m news)
    (hJl : ∀ i m' nw, J i m' nw → (ax, listOf vs.toArray nl) ∈ nw)
    (turn : ∀ I i v m₁ nw h tk oI (Wb : Flow → Shared → Prop), vs[i]? = some v → J i m₁ nw → I ∉ nw.map (·.1) → (∀ p ∈ news, p.1 < I) → Fr h₀ L h m₁ → News h₀ L h ((I, oI) :: nw) → (∀ s', FEnd h₀ L (J (i + 1)) I oI { s with heap := h, toks := tk } s' → Wb .next s') →
      wpAny (model prog w) A (assign target env v) (fun _ s₃ => wpAny (model prog w) A (execs body env) Wb NoE s₃) NoE { s with heap := h, toks := tk })
    (done : ∀ m₁ nw h tk, J vs.length m₁ nw → Fr h₀ L h m₁ → News h₀ L h nw → Q .next { s with heap := h, toks := tk }) :
    wpAny (model prog w) A (pyIter (.ref ax)) (fun it s₂ => ForRest prog w A E env target body Q it s₂) E s :=
  for_listQ J hh hE F N hm j0 hJl (fun I i v m₁ nw h tk oI Wb a b c d e f g _ => turn I i v m₁ nw h tk oI Wb a b c d e f g) done
theorem for_listB {ax : Addr} {vs : List Value} {nl : Nat} (J : Nat → (Str → Option Value) → List (Addr × Obj) → Prop)
    (hh : A.handled = none) (hE : PassesOwn (model prog w) A env E) (F : Fr h₀ L s.heap m) (N : News h₀ L s.heap news) (hm : h₀.get? ax = some (listOf vs.toArray nl)) (j0 : J 0 m news)
    (turn : ∀ I i v m₁ nw h tk oI (Wb : Flow → Shared → Prop), vs[i]? = some v → J i m₁ nw → I ∉ nw.map (·.1) → (∀ p ∈ news, p.1 < I) → Fr h₀ L h m₁ → News h₀ L h ((I, oI) :: nw) → (∀ s', FEnd h₀ L (J (i + 1)) I oI { s with heap := h, toks := tk } s' → Wb .next s') →
      wpAny (model prog w) A (assign target env v) (fun _ s₃ => wpAny (model prog w) A (execs body env) Wb NoE s₃) NoE { s with heap := h, toks := tk })
    (done : ∀ m₁ nw h tk, J vs.length m₁ nw → Fr h₀ L h m₁ → News h₀ L h nw → Q .next { s with heap := h, toks := tk }) :
    wpAny (model prog w) A (pyIter (.ref ax)) (fun it s₂ => ForRest prog w A E env target body Q it s₂) E s :=
  for_listBQ J hh hE F N hm j0 (fun I i v m₁ nw h tk oI Wb a b c d e f g _ => turn I i v m₁ nw h tk oI Wb a b c d e f g) done
theorem for_range {r : Addr} {a₀ b₀ c₀ : Int} {t₀ u₀ v₀ : Tok} {n : Nat} {x : Str} {px : Pos} (J : Nat → (Str → Option Value) → List (Addr × Obj) → Prop)
    (hh : A.handled = none) (hE : PassesOwn (model prog w) A env E) (hr : IsRange s.heap r a₀ b₀ c₀ t₀ u₀ v₀) (hsmall : Builtin.Range.small a₀ b₀ c₀ = true) (hn : Builtin.Range.rangeSize a₀ b₀ c₀ = (n : Int))
    (F : Fr h₀ L s.heap m) (N : News h₀ L s.heap news) (j0 : J 0 m news)
    (turn : ∀ I (i : Nat) t m₁ nw h tk oI (Wb : Flow → Shared → Prop), i < n → J i m₁ nw → I ∉ nw.map (·.1) → (∀ p ∈ news, p.1 < I) → Fr h₀ L h m₁ → News h₀ L h ((I, oI) :: nw) → (∀ s', FEnd h₀ L (J (i + 1)) I oI { s with heap := h, toks := tk } s' → Wb .next s') →
      wpAny (model prog w) A (assign (.Name x px) env (.int (a₀ + (i : Int) * c₀) t)) (fun _ s₃ => wpAny (model prog w) A (execs body env) Wb NoE s₃) NoE { s with heap := h, toks := tk })
    (done : ∀ m₁ nw h tk, J n m₁ nw → Fr h₀ L h m₁ → News h₀ L h nw → Q .next { s with heap := h, toks := tk }) :
    wpAny (model prog w) A (pyIter (.ref r)) (fun it s₂ => ForRest prog w A E env (.Name x px) body Q it s₂) E s :=
  for_rangeQ J hh hE hr hsmall hn F N j0 (fun I i t m₁ nw h tk oI Wb a b c d e f g _ => turn I i t m₁ nw h tk oI Wb a b c d e f g) done
end


example : True := by (w_top off); trivial
example : True := by
  (k_with "WhlRest" => (refine hold ?_))
  (k_with "exec While Constant cons nil" => (k_here; refine hold ?_))
  (k_with "exec While Compare cons nil" => (k_here; refine hold ?_))
  trivial
abbrev heapObj (dh : Addr) : Obj := instObj 143 dh
abbrev heapDict (z3 : Int) (k3 : Tok) (xm : Addr) (z4 : Int) (k4 t4 : Tok) (z5 : Int) (k5 t5 : Tok) (z6 : Int) (k6 : Tok) (fl : Addr) (n : Nat) : Obj :=
  dictOf [⟨z3, .str "memory" k3, .ref xm⟩, ⟨z4, .str "start" k4, .int 1024 t4⟩, ⟨z5, .str "limit" k5, .int 1504 t5⟩, ⟨z6, .str "free" k6, .ref fl⟩] n

theorem retB {Q : Value → Shared → Prop} {x y : Bool} {s : Shared} (h : x = y) (q : Q (.bool y) s) : Q (.bool x) s := h ▸ q

section
variable {w : World} {mean : ExcName → Option Value} {mg mb : Str → Option Value} {dp un : Nat} {gd : Option (List Code)} {cn : Str} {cs : Scope} {a : Addr} {ccd : Value} {cl : List (Str × Addr)} {outer : List Env} {A₀ : Around} {base h₀ : Heap} {L : Addr} {m : Str → Option Value} {s : Shared}
  {news : List (Addr × Obj)} {xm dm wd xh dh fl : Addr} {z1 z2 z3 z4 z5 z6 : Int} {k1 k2 t1 k3 k4 t4 k5 t5 k6 : Tok} {n n' : Nat} {o : Obj} {W : Int → Int}
set_option maxHeartbeats 8000000 in
theorem first_offset_ok {r : Int} {t : Tok} {Q E : Value → Shared → Prop}
    (B : Below A₀ base outer h₀) (F : Fr h₀ L s.heap m) (X : (hd.heap_39 w.params).In h₀) (T : TopH mean mg mb h₀) (hk : cs.kind = .function) (hd : dp + 8 < recursionLimit) (hu : un + 80 < cLine)
    (N : News h₀ L s.heap news) (i1 : (xm, memObj dm) ∈ news) (i2 : (dm, memDict z1 k1 t1 z2 k2 wd n) ∈ news) (i3 : (wd, o) ∈ news)
    (i4 : (xh, heapObj dh) ∈ news) (i5 : (dh, heapDict z3 k3 xm z4 k4 t4 z5 k5 t5 z6 k6 fl n') ∈ news) (hlo : (wd == sysModules) = false) (hM : MemIs w o W)
    (h0 : 8 ≤ r) (h1 : r < 8192)
    (ret : ∀ t h' tk', Same [] s.heap h' → Q (.int (W ((r + -8) / 4) + 20) t) { s with heap := h', toks := tk' }) :
    wpAny (model pw w) (ktrTop dp un gd cn cs L a ccd cl outer) (call (.ref 28) [.ref xh, .int r t]) Q E s := by
  k_dflt walk_at "NU enter"
  intro g' L' h' Qb hg' hL' hQ hQn F' N' B' X' T'
  (try dsimp only); (try k_lift B'); (try k_fold)
  k_steps
  rename Fr _ _ _ _ => F9
  rename News _ _ _ _ => N9
  exact hQ _ _ (ret _ _ _ (same_end0 hg' F9 N9 N))

set_option maxHeartbeats 8000000 in
theorem is_fresh_ok {r : Int} {t : Tok} {Q E : Value → Shared → Prop}
    (B : Below A₀ base outer h₀) (F : Fr h₀ L s.heap m) (X : (hd.heap_39 w.params).In h₀) (T : TopH mean mg mb h₀) (hk : cs.kind = .function) (hd : dp + 8 < recursionLimit) (hu : un + 80 < cLine)
    (N : News h₀ L s.heap news) (i1 : (xm, memObj dm) ∈ news) (i2 : (dm, memDict z1 k1 t1 z2 k2 wd n) ∈ news) (i3 : (wd, o) ∈ news)
    (i4 : (xh, heapObj dh) ∈ news) (i5 : (dh, heapDict z3 k3 xm z4 k4 t4 z5 k5 t5 z6 k6 fl n') ∈ news) (hlo : (wd == sysModules) = false) (hM : MemIs w o W)
    (ret : ∀ h' tk', Same [] s.heap h' → Q (.bool (decide (1024 < r ∧ r < 1504 ∧ W ((r + -4) / 4) = 0))) { s with heap := h', toks := tk' }) :
    wpAny (model pw w) (ktrTop dp un gd cn cs L a ccd cl outer) (call (.ref 35) [.ref xh, .int r t]) Q E s := by
  k_dflt walk_at "NU enter"
  intro g' L' h' Qb hg' hL' hQ hQn F' N' B' X' T'
  (try dsimp only); (try k_lift B'); (try k_fold)
  k_steps
  all_goals (rename Fr _ _ _ _ => F9; rename News _ _ _ _ => N9)
  · refine hQ _ _ (retB ?_ (ret _ _ (same_end0 hg' F9 N9 N)))
    rw [eq_comm, decide_eq_false_iff_not]; omega
  · refine hQ _ _ (retB ?_ (ret _ _ (same_end0 hg' F9 N9 N)))
    rw [eq_comm, decide_eq_false_iff_not]; omega
  · refine hQ _ _ (retB ?_ (ret _ _ (same_end0 hg' F9 N9 N)))
    rw [Bool.eq_iff_iff, beq_iff_eq, decide_eq_true_eq]; omega
end
example : True := by
  (k_with "NU prem" => ((case B => k_asm); (case F => k_asm); (case X => k_asm); (case T => k_asm); (case hk => first | exact rfl | assumption); (case hd => ktr_room); (case hu => ktr_units); (case N => k_asm); (case i1 => k_mem); (case i2 => k_mem); (case i3 => k_mem); (case hlo => assumption); (case hM => k_asm)))
  (k_with "call ref" => (k_here; (with_reducible show wpAny _ _ (call (Value.ref 28) _ _) _ _ _); k_dflt (refine' first_offset_ok ?B ?F ?X ?T ?hk ?hd ?hu ?N ?i1 ?i2 ?i3 ?i4 ?i5 ?hlo ?hM ?h0 ?h1 ?_; walk_at "NU prem"; (case i4 => k_mem); (case i5 => k_mem); (case h0 => first | decide | assumption | omega); (case h1 => first | decide | assumption | omega); k_whole; walk_at "NU same0")))
  (k_with "NU sameB" => (intro _ _ S9; (have _ := Fr.same0 (by k_asm) S9); (have _ := News.same0 (by k_asm) S9); clear S9; (try k_sweep)))
  (k_with "call ref" => (k_here; (with_reducible show wpAny _ _ (call (Value.ref 35) _ _) _ _ _); k_dflt (refine' is_fresh_ok ?B ?F ?X ?T ?hk ?hd ?hu ?N ?i1 ?i2 ?i3 ?i4 ?i5 ?hlo ?hM ?_; walk_at "NU prem"; (case i4 => k_mem); (case i5 => k_mem); k_whole; walk_at "NU sameB")))
  trivial
/-- what the walk of mark_from asks of an invariant over (count, here, back, memory) with its measure -/
structure MarkInv (root : Int) (W0 : Int → Int) (Inv : Nat → Int → Int → Int → (Int → Int) → Prop) (Post : Int → (Int → Int) → Prop) : Prop where
  start : 1024 < root → root < 1504 → W0 ((root + -4) / 4) = 0 → ∃ k, Inv k 1 root 0 (upd W0 ((root + -4) / 4) ((W0 ((root + -8) / 4) + 20) % 4294967296))
  stay : ¬ (1024 < root ∧ root < 1504 ∧ W0 ((root + -4) / 4) = 0) → Post 0 W0
  here : ∀ {k c h b W}, Inv k c h b W → 1024 < h ∧ h < 1504 ∧ 0 ≤ W ((h + -4) / 4) ∧ W ((h + -4) / 4) < 8192
  fld : ∀ {k c h b W}, Inv k c h b W → W (W ((h + -4) / 4) / 4) ≠ 4294967295 → 0 ≤ h + W (W ((h + -4) / 4) / 4) ∧ h + W (W ((h + -4) / 4) / 4) < 8192
  push : ∀ {k c h b W t}, Inv k c h b W → W (W ((h + -4) / 4) / 4) ≠ 4294967295 → t = W ((h + W (W ((h + -4) / 4) / 4)) / 4) → 1024 < t → t < 1504 → W ((t + -4) / 4) = 0 →
    ∃ k', k' < k ∧ Inv k' (c + 1) t h (upd (upd W ((h + W (W ((h + -4) / 4) / 4)) / 4) (b % 4294967296)) ((t + -4) / 4) ((upd W ((h + W (W ((h + -4) / 4) / 4)) / 4) (b % 4294967296) ((t + -8) / 4) + 20) % 4294967296))
  skip : ∀ {k c h b W t}, Inv k c h b W → W (W ((h + -4) / 4) / 4) ≠ 4294967295 → t = W ((h + W (W ((h + -4) / 4) / 4)) / 4) → ¬ (1024 < t ∧ t < 1504 ∧ W ((t + -4) / 4) = 0) →
    ∃ k', k' < k ∧ Inv k' c h b (upd W ((h + -4) / 4) ((W ((h + -4) / 4) + 4) % 4294967296))
  done : ∀ {k c h b W}, Inv k c h b W → W (W ((h + -4) / 4) / 4) = 4294967295 → b = 0 → Post c W
  back : ∀ {k c h b W}, Inv k c h b W → W (W ((h + -4) / 4) / 4) = 4294967295 → b ≠ 0 → 1024 < b ∧ b < 1504 ∧ 0 ≤ W ((b + -4) / 4) ∧ W ((b + -4) / 4) < 8192 ∧ 0 ≤ b + W (W ((b + -4) / 4) / 4) ∧ b + W (W ((b + -4) / 4) / 4) < 8192
  pop : ∀ {k c h b W}, Inv k c h b W → W (W ((h + -4) / 4) / 4) = 4294967295 → b ≠ 0 →
    ∃ k', k' < k ∧ Inv k' c b (W ((b + W (W ((b + -4) / 4) / 4)) / 4)) (upd (upd W ((b + W (W ((b + -4) / 4) / 4)) / 4) (h % 4294967296)) ((b + -4) / 4) ((W ((b + -4) / 4) + 4) % 4294967296))

/-- the while's word: count, here, back and the memory -/
inductive MarkJ (w : World) (g : Heap) (L xh xm wd : Addr) (im : List (Addr × Obj)) (Inv : Nat → Int → Int → Int → (Int → Int) → Prop) (s : Shared) (k : Nat) : Shared → Prop
  | mk {h8 : Heap} {tk8 : Nat} {m8 : Str → Option Value} {o8 : Obj} {c hr b : Int} {W8 : Int → Int} {tc th tb : Tok}
      (F8 : Fr g L h8 (fun y => match List.lookup y [("heap", .ref xh), ("memory", .ref xm), ("count", .int c tc), ("back", .int b tb), ("here", .int hr th)] with | some v => some v | none => m8 y))
      (N8 : News g L h8 ((wd, o8) :: im)) (M8 : MemIs w o8 W8) (hI : Inv k c hr b W8) : MarkJ w g L xh xm wd im Inv s k { s with heap := h8, toks := tk8 }

section
variable {w : World} {mean : ExcName → Option Value} {mg mb : Str → Option Value} {dp un : Nat} {gd : Option (List Code)} {cn : Str} {cs : Scope} {a : Addr} {ccd : Value} {cl : List (Str × Addr)} {outer : List Env} {A₀ : Around} {base h₀ : Heap} {L : Addr} {m : Str → Option Value} {s : Shared}
  {news : List (Addr × Obj)} {xm dm wd xh dh fl : Addr} {z1 z2 z3 z4 z5 z6 : Int} {k1 k2 t1 k3 k4 t4 k5 t5 k6 : Tok} {n n' : Nat} {o : Obj} {W : Int → Int}
set_option maxHeartbeats 8000000 in
theorem mark_from_ok {r : Int} {t : Tok} {Q E : Value → Shared → Prop} {Inv : Nat → Int → Int → Int → (Int → Int) → Prop} {Post : Int → (Int → Int) → Prop}
    (B : Below A₀ base outer h₀) (F : Fr h₀ L s.heap m) (X : (hd.heap_39 w.params).In h₀) (T : TopH mean mg mb h₀) (hk : cs.kind = .function) (hd : dp + 12 < recursionLimit) (hu : un + 120 < cLine)
    (N : News h₀ L s.heap news) (i1 : (xm, memObj dm) ∈ news) (i2 : (dm, memDict z1 k1 t1 z2 k2 wd n) ∈ news) (i3 : (wd, o) ∈ news)
    (i4 : (xh, heapObj dh) ∈ news) (i5 : (dh, heapDict z3 k3 xm z4 k4 t4 z5 k5 t5 z6 k6 fl n') ∈ news) (hlo : (wd == sysModules) = false) (hM : MemIs w o W)
    (n1 : xm ≠ wd) (n2 : dm ≠ wd) (n3 : xh ≠ wd) (n4 : dh ≠ wd) (I : MarkInv r W Inv Post)
    (ret : ∀ c W' t h' tk' o', Same [wd] s.heap h' → h'.get? wd = some o' → MemIs w o' W' → Post c W' → Q (.int c t) { s with heap := h', toks := tk' }) :
    wpAny (model pw w) (ktrTop dp un gd cn cs L a ccd cl outer) (call (.ref 42) [.ref xh, .int r t]) Q E s := by
  obtain ⟨im, N, x1, tr⟩ := im_of1 N i3
  replace i1 := tr _ i1 n1
  replace i2 := tr _ i2 n2
  replace i4 := tr _ i4 n3
  replace i5 := tr _ i5 n4
  clear tr i3
  k_dflt walk_at "NU enter"
  intro g' L' h' Qb hg' hL' hQ hQn F' N' B' X' T'
  (try dsimp only); (try k_lift B'); (try k_fold)
  k_steps
  · rename Fr _ _ _ _ => F9
    rename News _ _ _ _ => N9
    rename MemIs _ _ _ => M9
    rename (1024 < r ∧ r < 1504 ∧ W ((r + -4) / 4) = 0) => hr9
    obtain ⟨k0, hI0⟩ := I.start hr9.1 hr9.2.1 hr9.2.2
    refine hold_out ?_
    refine while_walk (MarkJ w g' L' xh xm wd im Inv s) k0 (by first | exact PassesOwn.never | passes_own | with_unfolding_all passes_own) ?_ ⟨fr_over _ (by rfl) F9, N9, M9, hI0⟩
    rintro k s1 Wb Wx ⟨F8, N8, M8, hI⟩ hJ hR hX
    clear F9 N9 M9 hr9 hI0
    have b1 := I.here hI
    have b2 := I.fld hI
    have b3 := I.back hI
    k_steps
    all_goals (rename Fr _ _ _ _ => F9; rename News _ _ _ _ => N9)
    · rename MemIs _ _ _ => M9
      rename (1024 < _ ∧ _ < 1504 ∧ _ = _) => hq
      obtain ⟨k', hk', hI'⟩ := I.push hI (by assumption) rfl hq.1 hq.2.1 hq.2.2
      exact hJ k' _ hk' ⟨fr_over _ (by rfl) F9, N9, M9, hI'⟩
    · rename MemIs _ _ _ => M9
      rename (¬ (1024 < _ ∧ _ < 1504 ∧ _ = _)) => hq
      obtain ⟨k', hk', hI'⟩ := I.skip hI (by assumption) rfl hq
      exact hJ k' _ hk' ⟨fr_over _ (by rfl) F9, N9, M9, hI'⟩
    · exact hR _ _ (hQ _ _ (ret _ _ _ _ _ _ (same_end1 hg' F9 N9 N) (N9 _ (.head _)).1 M8 (I.done hI (by assumption) (by assumption))))
    · rename MemIs _ _ _ => M9
      obtain ⟨k', hk', hI'⟩ := I.pop hI (by assumption) (by assumption)
      exact hJ k' _ hk' ⟨fr_over _ (by rfl) F9, N9, M9, hI'⟩
  · rename Fr _ _ _ _ => F9
    rename News _ _ _ _ => N9
    exact hQ _ _ (ret _ _ _ _ _ _ (same_end1 hg' F9 N9 N) (N9 _ (.head _)).1 hM (I.stay (by assumption)))
end


example : True := by (w_top off); trivial
example : True := by
  (k_with "NU prem5" => (walk_at "NU prem"; (case i4 => k_mem); (case i5 => k_mem)))
  trivial
theorem fm2 (x : Int) : x.fmod 2 = x % 2 := Int.fmod_eq_emod_of_nonneg _ (by decide)
theorem fm32 (x : Int) : x.fmod 4294967296 = x % 4294967296 := Int.fmod_eq_emod_of_nonneg _ (by decide)
theorem fd16 (x : Int) : x.fdiv 16 = x / 16 := Int.fdiv_eq_ediv_of_nonneg _ (by decide)
def bsz (x : Int) : Int := (x + 8 + 16 - 1) / 16 * 16
def szW (W : Int → Int) (b : Int) : Int := if W (b / 4) % 2 = 1 then W (b / 4) - 1 else bsz (W (W (b / 4) / 4))

theorem retI {Q : Value → Shared → Prop} {x y : Int} {t : Tok} {s : Shared} (h : x = y) (q : Q (.int y t) s) : Q (.int x t) s := h ▸ q

section
variable {w : World} {mean : ExcName → Option Value} {mg mb : Str → Option Value} {dp un : Nat} {gd : Option (List Code)} {cn : Str} {cs : Scope} {a : Addr} {ccd : Value} {cl : List (Str × Addr)} {outer : List Env} {A₀ : Around} {base h₀ : Heap} {L : Addr} {m : Str → Option Value} {s : Shared}
  {news : List (Addr × Obj)} {xm dm wd xh dh fl : Addr} {z1 z2 z3 z4 z5 z6 : Int} {k1 k2 t1 k3 k4 t4 k5 t5 k6 : Tok} {n n' : Nat} {o : Obj} {W : Int → Int}
set_option maxHeartbeats 8000000 in
theorem size_of_ok {b : Int} {t : Tok} {Q E : Value → Shared → Prop}
    (B : Below A₀ base outer h₀) (F : Fr h₀ L s.heap m) (X : (hd.heap_39 w.params).In h₀) (T : TopH mean mg mb h₀) (hk : cs.kind = .function) (hd : dp + 8 < recursionLimit) (hu : un + 80 < cLine)
    (N : News h₀ L s.heap news) (i1 : (xm, memObj dm) ∈ news) (i2 : (dm, memDict z1 k1 t1 z2 k2 wd n) ∈ news) (i3 : (wd, o) ∈ news)
    (i4 : (xh, heapObj dh) ∈ news) (i5 : (dh, heapDict z3 k3 xm z4 k4 t4 z5 k5 t5 z6 k6 fl n') ∈ news) (hlo : (wd == sysModules) = false) (hM : MemIs w o W)
    (h0 : 0 ≤ b) (h1 : b < 8192) (h2 : W (b / 4) % 2 ≠ 1 → 0 ≤ W (b / 4) ∧ W (b / 4) < 8192 ∧ 0 ≤ W (W (b / 4) / 4) ∧ W (W (b / 4) / 4) < 4096)
    (ret : ∀ t h' tk', Same [] s.heap h' → Q (.int (szW W b) t) { s with heap := h', toks := tk' }) :
    wpAny (model pw w) (ktrTop dp un gd cn cs L a ccd cl outer) (call (.ref 112) [.ref xh, .int b t]) Q E s := by
  k_dflt walk_at "NU enter"
  intro g' L' h' Qb hg' hL' hQ hQn F' N' B' X' T'
  (try dsimp only); (try k_lift B'); (try k_fold)
  rw [← fm2] at h2
  k_steps
  all_goals (rename Fr _ _ _ _ => F9; rename News _ _ _ _ => N9)
  · refine hQ _ _ (retI ?_ (ret _ _ _ (same_end0 hg' F9 N9 N)))
    unfold szW
    rw [if_pos (by rw [← fm2]; assumption)]
  · refine hQ _ _ (retI ?_ (ret _ _ _ (same_end0 hg' F9 N9 N)))
    unfold szW bsz
    rw [if_neg (by rw [← fm2]; assumption), ← fd16]
end
theorem whl_dec {p : Prop} [Decidable p] {T F : Prop} (ht : p → T) (hf : ¬ p → F) : WhlIf (decide p) T F := by
  by_cases h : p
  · exact WhlIf.yes (decide_eq_true h) (ht h)
  · exact WhlIf.no (decide_eq_false h) (hf h)


example : True := by (w_top off); trivial
example : True := by
  (k_with "call ref" => (k_here; (with_reducible show wpAny _ _ (call (Value.ref 112) _ _) _ _ _); k_dflt (refine' size_of_ok ?B ?F ?X ?T ?hk ?hd ?hu ?N ?i1 ?i2 ?i3 ?i4 ?i5 ?hlo ?hM ?h0 ?h1 ?h2 ?_; walk_at "NU prem5"; (case h0 => first | decide | assumption | omega); (case h1 => first | decide | assumption | omega); (case h2 => first | assumption | omega); k_whole; walk_at "NU same0")))
  (k_with "WhlIf" => (refine whl_dec (fun _ => ?_) (fun _ => ?_)))
  trivial
/-- what the walk of block_of asks of an invariant over the block that it looks at -/
structure BlockInv (W : Int → Int) (x : Int) (Inv : Nat → Int → Prop) (Post : Int → Prop) : Prop where
  off : x < 1024 ∨ 1504 ≤ x → Post 0
  start : 1024 ≤ x → x < 1504 → ∃ k, Inv k 1024
  bound : ∀ {k b}, Inv k b → b < 1504 → 0 ≤ b ∧ (W (b / 4) % 2 ≠ 1 → 0 ≤ W (b / 4) ∧ W (b / 4) < 8192 ∧ 0 ≤ W (W (b / 4) / 4) ∧ W (W (b / 4) / 4) < 4096)
  miss : ∀ {k b}, Inv k b → b < 1504 → x < b + szW W b → (W (b / 4) % 2 = 1 ∨ x < b + 8) → Post 0
  hit : ∀ {k b}, Inv k b → b < 1504 → x < b + szW W b → W (b / 4) % 2 ≠ 1 → ¬ x < b + 8 → Post (b + 8)
  next : ∀ {k b}, Inv k b → b < 1504 → ¬ x < b + szW W b → ∃ k', k' < k ∧ Inv k' (b + szW W b)
  out : ∀ {k b}, Inv k b → ¬ b < 1504 → Post 0

/-- the while's word in block_of -/
inductive BlockJ (g : Heap) (L xh : Addr) (x : Int) (news : List (Addr × Obj)) (Inv : Nat → Int → Prop) (s : Shared) (k : Nat) : Shared → Prop
  | mk {h8 : Heap} {tk8 : Nat} {m8 : Str → Option Value} {b : Int} {ta tb : Tok}
      (F8 : Fr g L h8 (fun y => match List.lookup y [("self", .ref xh), ("address", .int x ta), ("block", .int b tb)] with | some v => some v | none => m8 y))
      (N8 : News g L h8 news) (hI : Inv k b) : BlockJ g L xh x news Inv s k { s with heap := h8, toks := tk8 }

section
variable {w : World} {mean : ExcName → Option Value} {mg mb : Str → Option Value} {dp un : Nat} {gd : Option (List Code)} {cn : Str} {cs : Scope} {a : Addr} {ccd : Value} {cl : List (Str × Addr)} {outer : List Env} {A₀ : Around} {base h₀ : Heap} {L : Addr} {m : Str → Option Value} {s : Shared}
  {news : List (Addr × Obj)} {xm dm wd xh dh fl : Addr} {z1 z2 z3 z4 z5 z6 : Int} {k1 k2 t1 k3 k4 t4 k5 t5 k6 : Tok} {n n' : Nat} {o : Obj} {W : Int → Int}
set_option maxHeartbeats 8000000 in
theorem block_of_ok {x : Int} {t : Tok} {Q E : Value → Shared → Prop} {Inv : Nat → Int → Prop} {Post : Int → Prop}
    (B : Below A₀ base outer h₀) (F : Fr h₀ L s.heap m) (X : (hd.heap_39 w.params).In h₀) (T : TopH mean mg mb h₀) (hk : cs.kind = .function) (hd : dp + 12 < recursionLimit) (hu : un + 120 < cLine)
    (N : News h₀ L s.heap news) (i1 : (xm, memObj dm) ∈ news) (i2 : (dm, memDict z1 k1 t1 z2 k2 wd n) ∈ news) (i3 : (wd, o) ∈ news)
    (i4 : (xh, heapObj dh) ∈ news) (i5 : (dh, heapDict z3 k3 xm z4 k4 t4 z5 k5 t5 z6 k6 fl n') ∈ news) (hlo : (wd == sysModules) = false) (hM : MemIs w o W)
    (I : BlockInv W x Inv Post)
    (ret : ∀ b t h' tk', Same [] s.heap h' → Post b → Q (.int b t) { s with heap := h', toks := tk' }) :
    wpAny (model pw w) (ktrTop dp un gd cn cs L a ccd cl outer) (call (.ref 140) [.ref xh, .int x t]) Q E s := by
  k_dflt walk_at "NU enter"
  intro g' L' h' Qb hg' hL' hQ hQn F' N' B' X' T'
  (try dsimp only); (try k_lift B'); (try k_fold)
  k_steps
  all_goals (rename Fr _ _ _ _ => F9; rename News _ _ _ _ => N9)
  · exact hQ _ _ (ret _ _ _ _ (same_end0 hg' F9 N9 N) (I.off (by omega)))
  · exact hQ _ _ (ret _ _ _ _ (same_end0 hg' F9 N9 N) (I.off (by omega)))
  · obtain ⟨k0, hI0⟩ := I.start (by omega) (by omega)
    refine hold_out ?_
    refine while_walk (BlockJ g' L' xh x news Inv s) k0 (by first | exact PassesOwn.never | passes_own | with_unfolding_all passes_own) ?_ ⟨fr_over _ (by rfl) F9, N9, hI0⟩
    rintro k s1 Wb Wx ⟨F8, N8, hI⟩ hJ hR hX
    clear F9 N9 hI0
    have b1 := I.bound hI
    k_steps
    all_goals (rename Fr _ _ _ _ => F9; rename News _ _ _ _ => N9)
    · exact hR _ _ (hQ _ _ (ret _ _ _ _ (same_end0 hg' F9 N9 N) (I.miss hI (by assumption) (by assumption) (.inl (by rw [← fm2]; assumption)))))
    · exact hR _ _ (hQ _ _ (ret _ _ _ _ (same_end0 hg' F9 N9 N) (I.miss hI (by assumption) (by assumption) (.inr (by assumption)))))
    · exact hR _ _ (hQ _ _ (ret _ _ _ _ (same_end0 hg' F9 N9 N) (I.hit hI (by assumption) (by assumption) (by rw [← fm2]; assumption) (by assumption))))
    · obtain ⟨k', hk', hI'⟩ := I.next hI (by assumption) (by assumption)
      exact hJ k' _ hk' ⟨fr_over _ (by rfl) F9, N9, hI'⟩
    · refine hX _ ?_
      (try dsimp only)
      k_steps
      rename Fr _ _ _ _ => F9
      rename News _ _ _ _ => N9
      exact hQ _ _ (ret _ _ _ _ (same_end0 hg' F9 N9 N) (I.out hI (by assumption)))
end
example : True := by
  (k_with "exec For Name Name cons nil" => (k_here; k_dflt (refine for_start ?_ (by intro _; rfl))))
  (k_with "pyIter ref" => (k_here; (with_reducible show wpAny _ _ (pyIter _) (fun it s₂ => ForRest _ _ _ _ _ _ _ _ it s₂) _ _); refine hold ?_))
  (k_with "ForRest" => (refine hold ?_))
  (k_with "call ref" => (k_here; (with_reducible show wpAny _ _ (call (Value.ref 140) _ _) _ _ _); k_dflt (refine' block_of_ok ?B ?F ?X ?T ?hk ?hd ?hu ?N ?i1 ?i2 ?i3 ?i4 ?i5 ?hlo ?hM ?I ?_; walk_at "NU prem5"; (case I => assumption); k_whole; intro _ _ _ _ S9 _; (have _ := Fr.same0 (by k_asm) S9); (have _ := News.same0 (by k_asm) S9); clear S9; (try k_sweep))))
  (k_with "NU same1" => ((have _ := Fr.same1 (by k_asm) (by k_asm) (by k_mem) S9); (have _ := News.same1 (by k_asm) (by k_upd) S9 G9); clear S9 G9; (try k_sweep)))
  (k_with "call ref" => (k_here; (with_reducible show wpAny _ _ (call (Value.ref 42) _ _) _ _ _); k_dflt (refine' mark_from_ok ?B ?F ?X ?T ?hk ?hd ?hu ?N ?i1 ?i2 ?i3 ?i4 ?i5 ?hlo ?hM ?n1 ?n2 ?n3 ?n4 ?I ?_; walk_at "NU prem5"; (case n1 => k_ne); (case n2 => k_ne); (case n3 => k_ne); (case n4 => k_ne); (case I => assumption); k_whole; intro _ _ _ _ _ _ S9 G9 _ _; (have _ := Fr.same1 (by k_asm) (by k_asm) (by k_mem) S9); (have _ := News.same1 (by k_asm) (by k_upd) S9 G9); clear S9 G9; (try k_sweep))))
  trivial
theorem ints_get {vs : List Value} {ns : List Int} (hi : IntsAre vs ns) {i : Nat} {v : Value} (hv : vs[i]? = some v) : ∃ x t, v = .int x t ∧ ns[i]? = some x := by
  have h1 : i < vs.length := by
    rcases Nat.lt_or_ge i vs.length with h | h
    · exact h
    · rw [List.getElem?_eq_none h] at hv; cases hv
  have h2 : i < ns.length := hi.length ▸ h1
  obtain ⟨t, ht⟩ := hi.get i ns[i] (by simp [h2])
  rw [hv] at ht
  exact ⟨ns[i], t, Option.some.inj ht, by simp [h2]⟩
/-- what the walk of mark asks: an invariant over (roots taken, count, memory) -/
structure RootInv (ns : List Int) (W0 : Int → Int) (Inv : Nat → Int → (Int → Int) → Prop) : Prop where
  start : Inv 0 0 W0
  step : ∀ {i c W x}, Inv i c W → ns[i]? = some x → ∃ BI BP, BlockInv W x BI BP ∧
    ∀ b, BP b → (b = 0 → Inv (i + 1) c W) ∧ (b ≠ 0 → ∃ MI MP, MarkInv b W MI MP ∧ ∀ c' W', MP c' W' → Inv (i + 1) (c + c') W')

/-- the for's word in mark -/
inductive RootJ (w : World) (xh wd : Addr) (im : List (Addr × Obj)) (Inv : Nat → Int → (Int → Int) → Prop) (i : Nat) (m1 : Str → Option Value) : List (Addr × Obj) → Prop
  | mk {o8 : Obj} {c : Int} {W8 : Int → Int} {tc : Tok} (M8 : MemIs w o8 W8) (hI : Inv i c W8) (e : AllAt m1 [("heap", .ref xh), ("count", .int c tc)]) : RootJ w xh wd im Inv i m1 ((wd, o8) :: im)

section
variable {w : World} {mean : ExcName → Option Value} {mg mb : Str → Option Value} {dp un : Nat} {gd : Option (List Code)} {cn : Str} {cs : Scope} {a : Addr} {ccd : Value} {cl : List (Str × Addr)} {outer : List Env} {A₀ : Around} {base h₀ : Heap} {L : Addr} {m : Str → Option Value} {s : Shared}
  {news : List (Addr × Obj)} {xm dm wd xh dh fl : Addr} {z1 z2 z3 z4 z5 z6 : Int} {k1 k2 t1 k3 k4 t4 k5 t5 k6 : Tok} {n n' : Nat} {o : Obj} {W : Int → Int}
set_option maxHeartbeats 8000000 in
theorem mark_ok {ax : Addr} {vs : List Value} {ns : List Int} {nl : Nat} {Q E : Value → Shared → Prop} {Inv : Nat → Int → (Int → Int) → Prop}
    (B : Below A₀ base outer h₀) (F : Fr h₀ L s.heap m) (X : (hd.heap_39 w.params).In h₀) (T : TopH mean mg mb h₀) (hk : cs.kind = .function) (hd : dp + 20 < recursionLimit) (hu : un + 200 < cLine)
    (N : News h₀ L s.heap news) (i1 : (xm, memObj dm) ∈ news) (i2 : (dm, memDict z1 k1 t1 z2 k2 wd n) ∈ news) (i3 : (wd, o) ∈ news)
    (i4 : (xh, heapObj dh) ∈ news) (i5 : (dh, heapDict z3 k3 xm z4 k4 t4 z5 k5 t5 z6 k6 fl n') ∈ news) (hlo : (wd == sysModules) = false) (hM : MemIs w o W)
    (n1 : xm ≠ wd) (n2 : dm ≠ wd) (n3 : xh ≠ wd) (n4 : dh ≠ wd) (i6 : (ax, listOf vs.toArray nl) ∈ news) (hi : IntsAre vs ns) (n5 : ax ≠ wd) (I : RootInv ns W Inv)
    (ret : ∀ c W' t h' tk' o', Same [wd] s.heap h' → h'.get? wd = some o' → MemIs w o' W' → Inv ns.length c W' → Q (.int c t) { s with heap := h', toks := tk' }) :
    wpAny (model pw w) (ktrTop dp un gd cn cs L a ccd cl outer) (call (.ref 49) [.ref xh, .ref ax]) Q E s := by
  obtain ⟨im, N, x1, tr⟩ := im_of1 N i3
  replace i1 := tr _ i1 n1
  replace i2 := tr _ i2 n2
  replace i4 := tr _ i4 n3
  replace i5 := tr _ i5 n4
  replace i6 := tr _ i6 n5
  clear tr i3
  k_dflt walk_at "NU enter"
  intro g' L' h' Qb hg' hL' hQ hQn F' N' B' X' T'
  (try dsimp only); (try k_lift B'); (try k_fold)
  k_steps
  all_goals (rename Fr _ _ _ _ => F9; rename News _ _ _ _ => N9)
  refine hold_out ?_
  refine for_list (RootJ w xh wd im Inv) (by rfl) (by first | exact PassesOwn.never | passes_own | with_unfolding_all passes_own) F9 N9 (.tail _ i6) ⟨hM, I.start, rfl⟩ ?_ ?_ ?_
  · rintro i m' nw ⟨_⟩
    exact .tail _ i6
  · rintro J9 i v m1 nw h8 tk8 oI Wb hv ⟨M8, hI, e⟩ hoff hlt F8 N8 hJ
    clear F9 N9
    obtain ⟨x, tx, rfl, hx⟩ := ints_get hi hv
    obtain ⟨BI, BP, hB, hs⟩ := I.step hI hx
    have F7 := fr_over _ e F8
    clear F8 e
    have hl : wd < J9 := hlt (wd, o) (.head _)
    clear hlt
    k_steps
    · rename BP _ => hP
      obtain ⟨MI, MP, hMI, hnx⟩ := (hs _ hP).2 (by assumption)
      refine hold_out ?_
      k_steps
      rename Fr _ _ _ _ => F9
      rename News _ _ _ _ => N9
      rename MemIs _ _ _ => M9
      rename MP _ _ => hP2
      exact hJ _ ⟨F9, N9, hoff, M9, hnx _ _ hP2, rfl⟩
    · rename BP _ => hP
      rename Fr _ _ _ _ => F9
      rename News _ _ _ _ => N9
      rename (_ = (0 : Int)) => h0
      exact hJ _ ⟨F9, N9, hoff, M8, (hs _ hP).1 h0, rfl⟩
  · rintro m1 nw h8 tk8 ⟨M8, hI, e⟩ F8 N8
    clear F9 N9
    have F7 := fr_over _ e F8
    clear F8 e
    (try dsimp only); (try k_fold)
    k_steps
    rename Fr _ _ _ _ => F9
    rename News _ _ _ _ => N9
    rw [hi.length] at hI
    exact hQ _ _ (ret _ _ _ _ _ _ (same_end1 hg' F9 N9 N) (N9 _ (.head _)).1 M8 hI)
end


example : True := by (w_top off); trivial
local macro_rules | `(tactic| walk_at "call type:range") => `(tactic| (k_here; (with_reducible rename Fr _ _ _ _ => F'); (with_reducible rename News _ _ _ _ => N'); (first | (with_unfolding_all refine range1_rows F' N' ?_) | (with_unfolding_all refine range2_rows F' N' ?_) | (with_unfolding_all refine range3_rows F' N' (by decide) ?_)); intro h9 tk9 t9 u9 v9 R9 F9 N9 K9; (try k_sweep)))
example : True := by
  (k_with "exec For Name Call cons nil" => (k_here; k_dflt (refine for_start ?_ (by intro _; rfl))))
  trivial
def lnum (x : Int) : Int := if x < 32 then 0 else if x < 64 then 1 else if x < 128 then 2 else 3

/-- an object that is the list of these values -/
def LstIs (o : Obj) (vs : List Value) : Prop := o.cls = .type "list" ∧ ∃ n, o.data = .seq vs.toArray n
def FreeIs (o : Obj) (f : Int → Int) : Prop := ∃ t0 t1 t2 t3 : Tok, LstIs o [.int (f 0) t0, .int (f 1) t1, .int (f 2) t2, .int (f 3) t3]

theorem LstIs.isList {h : Heap} {a : Addr} {o : Obj} {vs : List Value} (L : LstIs o vs) (e : h.get? a = some o) : h.IsList a vs.toArray := ⟨o, e, L.1, L.2⟩

section
variable {prog : Program} {w : World} {A : Around} {E : Value → Shared → Prop} {s : Shared} {h₀ : Heap} {L l : Addr} {m : Str → Option Value} {news : List (Addr × Obj)} {o : Obj} {g : Obj → List (Addr × Obj)}
theorem list_read {value slice : PySem.Expr} {vs : List Value} {k : Int} {u : Tok} {v : Value} {Q : Value → Shared → Prop}
    (N : News h₀ L s.heap news) (hm : (l, o) ∈ news) (hL : LstIs o vs) (h0 : 0 ≤ k) (hhi : k < 2 ^ 63) (hx : vs[k.toNat]? = some v) (h : Q v s)
    (hs : subscripted slice false (.ref l) (.int k u) = operate [.ref l, .int k u] (getItem (.ref l) (.int k u)) := by with_unfolding_all rfl) :
    wpAny (model prog w) A (subscriptTail value slice (.ref l) (.int k u)) Q E s :=
  tail_any (hL.isList (N _ hm).1).typeIs slot_list_getitem.lookup (wpAny_getItem_list (hL.isList (N _ hm).1) h0 hhi (by simpa using hx) h) hs

theorem free_read {value slice : PySem.Expr} {f : Int → Int} {k : Int} {u : Tok} {Q : Value → Shared → Prop}
    (N : News h₀ L s.heap news) (hm : (l, o) ∈ news) (hL : FreeIs o f) (h0 : 0 ≤ k) (h1 : k < 4) (h : ∀ t, Q (.int (f k) t) s)
    (hs : subscripted slice false (.ref l) (.int k u) = operate [.ref l, .int k u] (getItem (.ref l) (.int k u)) := by with_unfolding_all rfl) :
    wpAny (model prog w) A (subscriptTail value slice (.ref l) (.int k u)) Q E s := by
  obtain ⟨t0, t1, t2, t3, hL⟩ := hL
  have hk : k = 0 ∨ k = 1 ∨ k = 2 ∨ k = 3 := by omega
  rcases hk with rfl | rfl | rfl | rfl
  · exact list_read N hm hL (by decide) (by decide) rfl (h t0) hs
  · exact list_read N hm hL (by decide) (by decide) rfl (h t1) hs
  · exact list_read N hm hL (by decide) (by decide) rfl (h t2) hs
  · exact list_read N hm hL (by decide) (by decide) rfl (h t3) hs

theorem list_store {vs : List Value} {k : Int} {u : Tok} {v : Value} {Q : Unit → Shared → Prop}
    (F : Fr h₀ L s.heap m) (N : News h₀ L s.heap news) (U : UpdF l o news g) (hL : LstIs o vs) (h0 : 0 ≤ k) (h1 : k < (vs.length : Int)) (h2 : vs.length < 2 ^ 62)
    (h : ∀ h' o', Fr h₀ L h' m → News h₀ L h' (g o') → LstIs o' (vs.set k.toNat v) → Q () { s with heap := h' }) :
    wpAny (model prog w) A (setItem (.ref l) (.int k u) v) Q E s := by
  obtain ⟨pre, post, rfl, hg, a, b⟩ := U.split
  have hm : (l, o) ∈ pre ++ (l, o) :: post := by simp
  have P := N _ hm
  refine wpAny_setItem_list (hL.isList P.1) h0 (by omega) (by simpa using h1) fun h' hl hs => ?_
  obtain ⟨o', ho', hc', n', hd'⟩ := hl
  refine h h' o' ?_ ?_ ⟨hc', n', ?_⟩
  · obtain ⟨oL, es, ep, hLL, r⟩ := F.ns
    exact ⟨⟨oL, es, ep, (hs.2 _ (Ne.symm P.2.1)).trans hLL, r⟩, fun c x q => (hs.2 c fun z => by
      have := P.2.2
      dsimp only at this
      rw [← z, q] at this; cases this).trans (F.keep c x q), F.above⟩
  · rw [hg]
    intro p hp
    rcases List.mem_append.mp hp with q | q
    · have P' := N p (List.mem_append_left _ q); exact ⟨(hs.2 _ (a p q)).trans P'.1, P'.2⟩
    · rcases List.mem_cons.mp q with rfl | q
      · exact ⟨ho', P.2⟩
      · have P' := N p (List.mem_append_right _ (.tail _ q)); exact ⟨(hs.2 _ (b p q)).trans P'.1, P'.2⟩
  · rw [hd']
    congr 1
    apply Array.toList_inj.mp
    simp

theorem free_store {f : Int → Int} {k x : Int} {u t : Tok} {Q : Unit → Shared → Prop}
    (F : Fr h₀ L s.heap m) (N : News h₀ L s.heap news) (U : UpdF l o news g) (hL : FreeIs o f) (h0 : 0 ≤ k) (h1 : k < 4)
    (h : ∀ h' o', Fr h₀ L h' m → News h₀ L h' (g o') → FreeIs o' (upd f k x) → Q () { s with heap := h' }) :
    wpAny (model prog w) A (setItem (.ref l) (.int k u) (.int x t)) Q E s := by
  obtain ⟨t0, t1, t2, t3, hL⟩ := hL
  refine list_store F N U hL h0 h1 (show 4 < 2 ^ 62 by decide) fun h' o' F' N' L' => h h' o' F' N' ?_
  have hk : k = 0 ∨ k = 1 ∨ k = 2 ∨ k = 3 := by omega
  rcases hk with rfl | rfl | rfl | rfl
  · exact ⟨t, t1, t2, t3, L'⟩
  · exact ⟨t0, t, t2, t3, L'⟩
  · exact ⟨t0, t1, t, t3, L'⟩
  · exact ⟨t0, t1, t2, t, L'⟩
end

theorem FreeIs.congr {o : Obj} {f f' : Int → Int} (h : FreeIs o f) (h0 : f 0 = f' 0) (h1 : f 1 = f' 1) (h2 : f 2 = f' 2) (h3 : f 3 = f' 3) : FreeIs o f' := by
  unfold FreeIs at *
  rwa [← h0, ← h1, ← h2, ← h3]

section
variable {w : World} {mean : ExcName → Option Value} {mg mb : Str → Option Value} {dp un : Nat} {gd : Option (List Code)} {cn : Str} {cs : Scope} {a : Addr} {ccd : Value} {cl : List (Str × Addr)} {outer : List Env} {A₀ : Around} {base h₀ : Heap} {L : Addr} {m : Str → Option Value} {s : Shared}
  {news : List (Addr × Obj)} {xm dm wd xh dh fl : Addr} {z1 z2 z3 z4 z5 z6 : Int} {k1 k2 t1 k3 k4 t4 k5 t5 k6 : Tok} {n n' : Nat} {o of : Obj} {W f : Int → Int}
set_option maxHeartbeats 8000000 in
theorem list_number_ok {x : Int} {t : Tok} {Q E : Value → Shared → Prop}
    (B : Below A₀ base outer h₀) (F : Fr h₀ L s.heap m) (X : (hd.heap_39 w.params).In h₀) (T : TopH mean mg mb h₀) (hk : cs.kind = .function) (hd : dp + 4 < recursionLimit) (hu : un + 40 < cLine)
    (ret : ∀ t h' tk', Same [] s.heap h' → Q (.int (lnum x) t) { s with heap := h', toks := tk' }) :
    wpAny (model pw w) (ktrTop dp un gd cn cs L a ccd cl outer) (call (.ref 70) [.int x t]) Q E s := by
  have N : News h₀ L s.heap [] := fun p hp => nomatch hp
  k_dflt walk_at "NU enter"
  intro g' L' h' Qb hg' hL' hQ hQn F' N' B' X' T'
  (try dsimp only); (try k_lift B'); (try k_fold)
  k_steps
  all_goals (rename Fr _ _ _ _ => F9; rename News _ _ _ _ => N9)
  all_goals (refine hQ _ _ (retI ?_ (ret _ _ _ (same_end0 hg' F9 N9 N))); unfold lnum; (repeat' split) <;> omega)
end
example : True := by
  (k_with "call ref" => (k_here; (with_reducible show wpAny _ _ (call (Value.ref 70) _ _) _ _ _); k_dflt (refine' list_number_ok ?B ?F ?X ?T ?hk ?hd ?hu ?_; (case B => k_asm); (case F => k_asm); (case X => k_asm); (case T => k_asm); (case hk => first | exact rfl | assumption); (case hd => ktr_room); (case hu => ktr_units); k_whole; walk_at "NU same0")))
  (k_with "subscriptTail" => (k_here; (with_reducible show wpAny _ _ (subscriptTail _ _ (Value.ref _) (Value.int _ _)) _ _ _); k_dflt (refine' free_read ?N ?m ?L ?a ?b ?_; (case N => k_asm); (case m => k_mem); (case L => assumption); (case a => first | decide | assumption | omega); (case b => omega); k_whole; intro _)))
  (k_with "setItem ref int" => (k_here; k_dflt (refine' free_store ?F ?N ?U ?L ?a ?b ?_; (case F => k_asm); (case N => k_asm); (case U => k_updF); (case L => assumption); (case a => first | decide | assumption | omega); (case b => omega); k_whole; intro _ _ _ N9; (try dsimp only at N9); revert N9; intro _ _; (try k_sweep))))
  trivial
theorem lnum_lo (x : Int) : 0 ≤ lnum x := by unfold lnum; (repeat' split) <;> omega
theorem lnum_hi (x : Int) : lnum x < 4 := by unfold lnum; (repeat' split) <;> omega

section
variable {w : World} {mean : ExcName → Option Value} {mg mb : Str → Option Value} {dp un : Nat} {gd : Option (List Code)} {cn : Str} {cs : Scope} {a : Addr} {ccd : Value} {cl : List (Str × Addr)} {outer : List Env} {A₀ : Around} {base h₀ : Heap} {L : Addr} {m : Str → Option Value} {s : Shared}
  {news : List (Addr × Obj)} {xm dm wd xh dh fl : Addr} {z1 z2 z3 z4 z5 z6 : Int} {k1 k2 t1 k3 k4 t4 k5 t5 k6 : Tok} {n n' : Nat} {o of : Obj} {W f : Int → Int}
set_option maxHeartbeats 8000000 in
theorem put_free_ok {b x : Int} {t tx : Tok} {Q E : Value → Shared → Prop}
    (B : Below A₀ base outer h₀) (F : Fr h₀ L s.heap m) (X : (hd.heap_39 w.params).In h₀) (T : TopH mean mg mb h₀) (hk : cs.kind = .function) (hd : dp + 8 < recursionLimit) (hu : un + 80 < cLine)
    (N : News h₀ L s.heap news) (i1 : (xm, memObj dm) ∈ news) (i2 : (dm, memDict z1 k1 t1 z2 k2 wd n) ∈ news) (i3 : (wd, o) ∈ news)
    (i4 : (xh, heapObj dh) ∈ news) (i5 : (dh, heapDict z3 k3 xm z4 k4 t4 z5 k5 t5 z6 k6 fl n') ∈ news) (hlo : (wd == sysModules) = false) (hM : MemIs w o W)
    (i6 : (fl, of) ∈ news) (hF : FreeIs of f)
    (n1 : xm ≠ wd) (n2 : dm ≠ wd) (n3 : xh ≠ wd) (n4 : dh ≠ wd) (n5 : fl ≠ wd) (n6 : xm ≠ fl) (n7 : dm ≠ fl) (n8 : xh ≠ fl) (n9 : dh ≠ fl)
    (h0 : 0 ≤ b) (h1 : b + 4 < 8192)
    (ret : ∀ h' tk' o' of', Same [wd, fl] s.heap h' → h'.get? wd = some o' → h'.get? fl = some of' → MemIs w o' (upd (upd W (b / 4) ((x + 1) % 4294967296)) ((b + 4) / 4) (f (lnum x) % 4294967296)) → FreeIs of' (upd f (lnum x) b) →
      Q .none { s with heap := h', toks := tk' }) :
    wpAny (model pw w) (ktrTop dp un gd cn cs L a ccd cl outer) (call (.ref 91) [.ref xh, .int b t, .int x tx]) Q E s := by
  obtain ⟨im, N, x1, x2, tr⟩ := im_of2 N i3 i6
  replace i1 := tr _ i1 n1 n6
  replace i2 := tr _ i2 n2 n7
  replace i4 := tr _ i4 n3 n8
  replace i5 := tr _ i5 n4 n9
  clear tr i3 i6
  have l1 := lnum_lo x
  have l2 := lnum_hi x
  k_dflt walk_at "NU enter"
  intro g' L' h' Qb hg' hL' hQ hQn F' N' B' X' T'
  (try dsimp only); (try k_lift B'); (try k_fold)
  k_steps
  all_goals (rename Fr _ _ _ _ => F9; rename News _ _ _ _ => N9)
  rename MemIs _ _ _ => M9
  rename FreeIs _ _ => L9
  exact hQn _ (ret _ _ _ _ (same_end2 hg' F9 N9 N) (N9 _ (.head _)).1 (N9 _ (.tail _ (.head _))).1 M9 L9)
end
theorem bne_no {a b : Int} (h : a = b) : (a != b) = false := by subst h; simp
theorem bne_yes {a b : Int} (h : a ≠ b) : (a != b) = true := by simpa using h


example : True := by (w_top off); trivial
section
variable {h₀ h h' : Heap} {L : Addr} {m : Str → Option Value} {news news' news'' : List (Addr × Obj)}
theorem Fr.same2 {d e : Addr} {o p : Obj} (F : Fr h₀ L h m) (N : News h₀ L h news) (hm : (d, o) ∈ news) (hm' : (e, p) ∈ news) (S : Same [d, e] h h') : Fr h₀ L h' m := Fr.same F S (fun b q => by
  simp only [List.mem_cons, List.not_mem_nil, or_false] at q
  rcases q with rfl | rfl
  · exact ⟨(N _ hm).2.1, (N _ hm).2.2⟩
  · exact ⟨(N _ hm').2.1, (N _ hm').2.2⟩)
theorem News.same2 {d e : Addr} {o o' p p' : Obj} (N : News h₀ L h news) (U : Upd d o o' news news') (V : Upd e p p' news' news'') (S : Same [d, e] h h') (hd : h'.get? d = some o') (he : h'.get? e = some p') (_hne : d ≠ e) : News h₀ L h' news'' := by
  have hm := Upd.mem U
  have hm' := Upd.mem V
  obtain ⟨pre, post, rfl, rfl, a, b⟩ := U.split
  obtain ⟨pre', post', e1, rfl, a', b'⟩ := V.split
  have P1 := (N _ hm).2
  have P2 : e ≠ L ∧ h₀.get? e = none := by
    rcases List.mem_append.mp hm' with q | q
    · exact (N _ (List.mem_append_left _ q)).2
    · rcases List.mem_cons.mp q with q | q
      · cases q; exact P1
      · exact (N _ (List.mem_append_right _ (.tail _ q))).2
  have key : ∀ q ∈ pre' ++ post', h'.get? q.1 = some q.2 ∧ q.1 ≠ L ∧ h₀.get? q.1 = none := by
    intro q hq
    have hqe : q.1 ≠ e := by
      rcases List.mem_append.mp hq with z | z
      · exact a' q z
      · exact b' q z
    have hq' : q ∈ pre ++ (d, o') :: post := by
      rw [e1]
      rcases List.mem_append.mp hq with z | z
      · exact List.mem_append_left _ z
      · exact List.mem_append_right _ (.tail _ z)
    rcases List.mem_append.mp hq' with z | z
    · have P := N q (List.mem_append_left _ z)
      refine ⟨S _ _ (fun y => ?_) P.1, P.2⟩
      simp only [List.mem_cons, List.not_mem_nil, or_false] at y
      exact y.elim (a q z) hqe
    · rcases List.mem_cons.mp z with rfl | z
      · exact ⟨hd, P1⟩
      · have P := N q (List.mem_append_right _ (.tail _ z))
        refine ⟨S _ _ (fun y => ?_) P.1, P.2⟩
        simp only [List.mem_cons, List.not_mem_nil, or_false] at y
        exact y.elim (b q z) hqe
  intro q hq
  rcases List.mem_append.mp hq with z | z
  · exact key q (List.mem_append_left _ z)
  · rcases List.mem_cons.mp z with rfl | z
    · exact ⟨he, P2⟩
    · exact key q (List.mem_append_right _ z)
end
example : True := by
  (k_with "call ref" => (k_here; (with_reducible show wpAny _ _ (call (Value.ref 91) _ _) _ _ _); k_dflt (refine' put_free_ok ?B ?F ?X ?T ?hk ?hd ?hu ?N ?i1 ?i2 ?i3 ?i4 ?i5 ?hlo ?hM ?i6 ?hF ?n1 ?n2 ?n3 ?n4 ?n5 ?n6 ?n7 ?n8 ?n9 ?h0 ?h1 ?_; walk_at "NU prem5"; (case i6 => k_mem); (case hF => assumption); (case n1 => k_ne); (case n2 => k_ne); (case n3 => k_ne); (case n4 => k_ne); (case n5 => k_ne); (case n6 => k_ne); (case n7 => k_ne); (case n8 => k_ne); (case n9 => k_ne); (case h0 => first | decide | assumption | omega); (case h1 => first | decide | assumption | omega); k_whole; intro _ _ _ _ S9 G9 H9 _ _; (have _ := Fr.same2 (by k_asm) (by k_asm) (by k_mem) (by k_mem) S9); (have _ := News.same2 (by k_asm) (by k_upd) (by k_upd) S9 G9 H9 (by k_ne)); clear S9 G9 H9; (try k_sweep))))
  (k_with "WhlIf" => (first | (refine WhlIf.no (bne_no (by omega)) ?_) | (refine WhlIf.yes (bne_yes (by omega)) ?_) | (refine WhlIf.no (decide_eq_false (by omega)) ?_) | (refine WhlIf.yes (decide_eq_true (by omega)) ?_)))
  trivial

/-- the free block (from e to the limit, if there is one) in memory and in the lists -/
structure FreeSt (W f : Int → Int) (e : Int) : Prop where
  lo : 1024 ≤ e
  hi : e ≤ 1504
  al : e % 16 = 0
  lst : ∀ j, 0 ≤ j → j < 4 → f j = if e < 1504 ∧ j = lnum (1504 - e) then e else 0
  wd : e < 1504 → W (e / 4) = 1504 - e + 1 ∧ W ((e + 4) / 4) = 0

theorem lnum_mono {x y : Int} (h : x ≤ y) : lnum x ≤ lnum y := by unfold lnum; (repeat' split) <;> omega
theorem FreeSt.zero {W f : Int → Int} {e k : Int} (h : FreeSt W f e) (he : e < 1504) (h0 : 0 ≤ k) (h1 : k < 4) (hf : f k = e) : ∀ j, 0 ≤ j → j < 4 → ¬ j = k → f j = 0 := by
  intro j a b c
  have hlo := h.lo
  have z := h.lst k h0 h1
  rw [h.lst j a b]
  rw [hf] at z
  split at z
  · rename_i q
    rw [if_neg (fun r => c (r.2.trans q.2.symm))]
  · omega
theorem FreeSt.size {W f : Int → Int} {e : Int} (h : FreeSt W f e) (he : e < 1504) : szW W e = 1504 - e := by
  unfold szW
  have := h.al
  rw [(h.wd he).1, if_pos (by omega)]; omega

theorem FreeSt.at {W f : Int → Int} {e k : Int} (h : FreeSt W f e) (h0 : 0 ≤ k) (h1 : k < 4) : f k = 0 ∨ (f k = e ∧ e < 1504) := by
  rw [h.lst k h0 h1]
  split
  · rename_i q; exact .inr ⟨rfl, q.1⟩
  · exact .inl rfl
/-- the for's word in take_free -/
inductive TakeJ (xh : Addr) (x : Int) (tx : Tok) (f : Int → Int) (e : Int) (nw : List (Addr × Obj)) (i : Nat) (m1 : Str → Option Value) : List (Addr × Obj) → Prop
  | mk (hI : ∀ j, lnum x ≤ j → j < lnum x + i → f j = 0 ∨ 1504 - e < x) (q : AllAt m1 [("self", .ref xh), ("size", .int x tx)]) : TakeJ xh x tx f e nw i m1 nw

section
variable {w : World} {mean : ExcName → Option Value} {mg mb : Str → Option Value} {dp un : Nat} {gd : Option (List Code)} {cn : Str} {cs : Scope} {a : Addr} {ccd : Value} {cl : List (Str × Addr)} {outer : List Env} {A₀ : Around} {base h₀ : Heap} {L : Addr} {m : Str → Option Value} {s : Shared}
  {news : List (Addr × Obj)} {xm dm wd xh dh fl : Addr} {z1 z2 z3 z4 z5 z6 : Int} {k1 k2 t1 k3 k4 t4 k5 t5 k6 : Tok} {n n' : Nat} {o of : Obj} {W f : Int → Int}
set_option maxHeartbeats 8000000 in
theorem take_free_ok {e x : Int} {tx : Tok} {Q E : Value → Shared → Prop}
    (B : Below A₀ base outer h₀) (F : Fr h₀ L s.heap m) (X : (hd.heap_39 w.params).In h₀) (T : TopH mean mg mb h₀) (hk : cs.kind = .function) (hd : dp + 12 < recursionLimit) (hu : un + 120 < cLine)
    (N : News h₀ L s.heap news) (i1 : (xm, memObj dm) ∈ news) (i2 : (dm, memDict z1 k1 t1 z2 k2 wd n) ∈ news) (i3 : (wd, o) ∈ news)
    (i4 : (xh, heapObj dh) ∈ news) (i5 : (dh, heapDict z3 k3 xm z4 k4 t4 z5 k5 t5 z6 k6 fl n') ∈ news) (hlo : (wd == sysModules) = false) (hM : MemIs w o W)
    (i6 : (fl, of) ∈ news) (hF : FreeIs of f)
    (n5 : fl ≠ wd) (n6 : xm ≠ fl) (n7 : dm ≠ fl) (n8 : xh ≠ fl) (n9 : dh ≠ fl)
    (hS : FreeSt W f e) (hx : 0 < x)
    (ret1 : e < 1504 → x ≤ 1504 - e → ∀ t h' tk' of', Same [fl] s.heap h' → h'.get? fl = some of' → FreeIs of' (fun _ => 0) → Q (.int e t) { s with heap := h', toks := tk' })
    (ret2 : ¬ (e < 1504 ∧ x ≤ 1504 - e) → ∀ t h' tk', Same [] s.heap h' → Q (.int 0 t) { s with heap := h', toks := tk' }) :
    wpAny (model pw w) (ktrTop dp un gd cn cs L a ccd cl outer) (call (.ref 119) [.ref xh, .int x tx]) Q E s := by
  obtain ⟨im, N, x1, tr⟩ := im_of1 N i6
  replace i1 := tr _ i1 n6
  replace i2 := tr _ i2 n7
  replace i3 := tr _ i3 (Ne.symm n5)
  replace i4 := tr _ i4 n8
  replace i5 := tr _ i5 n9
  clear tr i6
  have l1 := lnum_lo x
  have l2 := lnum_hi x
  have e1 := hS.lo
  have e2 := hS.hi
  k_dflt walk_at "NU enter"
  intro g' L' h' Qb hg' hL' hQ hQn F' N' B' X' T'
  (try dsimp only); (try k_lift B'); (try k_fold)
  k_steps
  rename Fr _ _ _ _ => F9
  rename News _ _ _ _ => N9
  rename IsRange _ _ _ _ _ _ _ _ => R9
  refine hold_out ?_
  refine for_rangeQ (n := (4 - lnum x).toNat) (TakeJ xh x tx f e ((fl, of) :: im)) (by rfl) (by first | exact PassesOwn.never | passes_own | with_unfolding_all passes_own) R9 (small_one (by omega) (by omega) (by omega) (by omega)) (by unfold Builtin.Range.rangeSize; simp only [Int.reduceGT, if_true]; split <;> omega)
    F9 N9 ⟨fun j a b => by omega, rfl⟩ ?_ ?_
  · rintro J9 i ti m1 nw h8 tk8 oI Wb hi ⟨hI, q⟩ hoff hlt F8 N8 hJ hR
    clear F9 N9 R9
    have F7 := fr_over _ q F8
    clear F8 q
    have hl : fl < J9 := hlt (fl, of) (.head _)
    clear hlt
    have hw := hS.wd
    have hsz := hS.size
    have h40 : 0 ≤ lnum x + i * 1 := by omega
    have h41 : lnum x + i * 1 < 4 := by omega
    rcases hS.at h40 h41 with hfN | ⟨hfN, he⟩
    · k_steps
      refine hold_out ?_
      refine whl_start 1 (while_turn (by first | exact PassesOwn.never | passes_own | with_unfolding_all passes_own) ?_)
      intro Vb Vx _ hS2 hX
      k_steps
      rename Fr _ _ _ _ => F9
      rename News _ _ _ _ => N9
      refine hX _ ?_
      (try dsimp only)
      k_steps
      rename Fr _ _ _ _ => F9
      rename News _ _ _ _ => N9
      refine hJ _ ⟨F9, N9, hoff, fun j a b => ?_, rfl⟩
      by_cases hj : j < lnum x + i
      · exact hI j a hj
      · have : j = lnum x + i * 1 := by omega
        rw [this]; exact .inl hfN
    · subst hfN
      have hw1 := hw he
      have hsz1 := hsz he
      have hal := hS.al
      k_steps
      refine hold_out ?_
      refine whl_start 2 (while_turn (by first | exact PassesOwn.never | passes_own | with_unfolding_all passes_own) ?_)
      intro Vb Vx hV hS2 hX
      k_steps
      · rename Fr _ _ _ _ => F9
        rename News _ _ _ _ => N9
        rename FreeIs _ (upd _ _ _) => L9
        refine hS2 _ _ (hR _ _ (hQ _ _ (ret1 he (by rw [← hsz1]; assumption) _ _ _ _ (same_end1 hg' F9 (fun p hp => N9 p (.tail _ hp)) N) (N9 _ (.tail _ (.head _))).1 (L9.congr ?_ ?_ ?_ ?_))))
        all_goals (
          unfold upd
          split
          · exact hw1.2
          · exact hS.zero he (by omega) (by omega) rfl _ (by omega) (by omega) (by assumption))
      · rename (¬ x ≤ szW W _) => hbig
        refine hV _ ?_
        refine while_turn (k := 0) (by first | exact PassesOwn.never | passes_own | with_unfolding_all passes_own) ?_
        intro Vb2 Vx2 _ _ hX2
        k_steps
        refine hX2 _ ?_
        (try dsimp only)
        k_steps
        rename Fr _ _ _ _ => F9
        rename News _ _ _ _ => N9
        exact hJ _ ⟨F9, N9, hoff, fun j a b => .inr (by omega), rfl⟩
  · rintro m1 nw h8 tk8 ⟨hI, q⟩ F8 N8
    clear F9 N9 R9
    (try dsimp only); (try k_fold)
    k_steps
    rename Fr _ _ _ _ => F9
    rename News _ _ _ _ => N9
    refine hQ _ _ (ret2 (fun hc => ?_) _ _ _ (same_end0 hg' F9 N9 N))
    have z1 := lnum_mono hc.2
    have z2 := hS.lst (lnum (1504 - e)) (lnum_lo _) (lnum_hi _)
    rw [if_pos ⟨hc.1, rfl⟩] at z2
    have z3 := lnum_hi (1504 - e)
    rcases hI _ z1 (by omega) with z | z <;> omega
end


example : True := by (w_top off); trivial
section
variable {w : World} {mean : ExcName → Option Value} {mg mb : Str → Option Value} {dp un : Nat} {gd : Option (List Code)} {cn : Str} {cs : Scope} {a : Addr} {ccd : Value} {cl : List (Str × Addr)} {outer : List Env} {A₀ : Around} {base h₀ : Heap} {L : Addr} {m : Str → Option Value} {s : Shared}
set_option maxHeartbeats 8000000 in
theorem block_size_ok {x : Int} {t : Tok} {Q E : Value → Shared → Prop}
    (B : Below A₀ base outer h₀) (F : Fr h₀ L s.heap m) (X : (hd.heap_39 w.params).In h₀) (T : TopH mean mg mb h₀) (hk : cs.kind = .function) (hd : dp + 4 < recursionLimit) (hu : un + 40 < cLine)
    (h0 : 0 ≤ x) (h1 : x < 4096)
    (ret : ∀ t h' tk', Same [] s.heap h' → Q (.int (bsz x) t) { s with heap := h', toks := tk' }) :
    wpAny (model pw w) (ktrTop dp un gd cn cs L a ccd cl outer) (call (.ref 63) [.int x t]) Q E s := by
  have N : News h₀ L s.heap [] := fun p hp => nomatch hp
  k_dflt walk_at "NU enter"
  intro g' L' h' Qb hg' hL' hQ hQn F' N' B' X' T'
  (try dsimp only); (try k_lift B'); (try k_fold)
  k_steps
  all_goals (rename Fr _ _ _ _ => F9; rename News _ _ _ _ => N9)
  all_goals (refine hQ _ _ (retI ?_ (ret _ _ _ (same_end0 hg' F9 N9 N))); unfold bsz; rw [← fd16])
end
theorem bsz_facts {x : Int} (h0 : 0 ≤ x) : x + 8 ≤ bsz x ∧ bsz x % 16 = 0 ∧ 16 ≤ bsz x ∧ bsz x < x + 24 := by unfold bsz; omega
example : True := by
  (k_with "call ref" => (k_here; (with_reducible show wpAny _ _ (call (Value.ref 63) _ _) _ _ _); k_dflt (refine' block_size_ok ?B ?F ?X ?T ?hk ?hd ?hu ?h0 ?h1 ?_; (case B => k_asm); (case F => k_asm); (case X => k_asm); (case T => k_asm); (case hk => first | exact rfl | assumption); (case hd => ktr_room); (case hu => ktr_units); (case h0 => first | decide | assumption | omega); (case h1 => first | decide | assumption | omega); k_whole; walk_at "NU same0")))
  (k_with "call ref" => (k_here; (with_reducible show wpAny _ _ (call (Value.ref 119) _ _) _ _ _); k_dflt (refine' take_free_ok ?B ?F ?X ?T ?hk ?hd ?hu ?N ?i1 ?i2 ?i3 ?i4 ?i5 ?hlo ?hM ?i6 ?hF ?n5 ?n6 ?n7 ?n8 ?n9 ?hS ?hx ?r1 ?r2; walk_at "NU prem5"; (case i6 => k_mem); (case hF => assumption); (case n5 => k_ne); (case n6 => k_ne); (case n7 => k_ne); (case n8 => k_ne); (case n9 => k_ne); (case hS => assumption); (case hx => omega); (all_goals k_whole); (case' r1 => ((intro _ _ _ _ _ _ S9 G9 _); (have _ := Fr.same1 (by k_asm) (by k_asm) (by k_mem) S9); (have _ := News.same1 (by k_asm) (by k_upd) S9 G9); clear S9 G9; (try k_sweep))); (case' r2 => ((intro _ _ _ _ S9); (have _ := Fr.same0 (by k_asm) S9); (have _ := News.same0 (by k_asm) S9); clear S9; (try k_sweep))))))
  trivial
theorem small4 {a b : Int} (h0 : 0 ≤ a) (h1 : a < 100000) (h2 : 0 ≤ b) (h3 : b < 100000) : Builtin.Range.small a b 4 = true := by
  unfold Builtin.Range.small Builtin.Range.rangeSize Builtin.Range.rangeFitsLong
  simp only [Int.reduceGT, if_true, Bool.and_eq_true, Bool.or_eq_true, decide_eq_true_eq, beq_iff_eq]
  split <;> omega
theorem FreeSt.congr {W W' f : Int → Int} {e : Int} (h : FreeSt W f e) (hW : ∀ p, e / 4 ≤ p → W' p = W p) : FreeSt W' f e :=
  ⟨h.lo, h.hi, h.al, h.lst, fun hc => by
    have := h.wd hc
    rw [hW _ (Int.le_refl _), hW _ (by omega)]; exact this⟩
structure AllocSt (W W' f' : Int → Int) (e size d : Int) : Prop where
  head : W' (e / 4) = d
  zero : ∀ p, e / 4 < p → p < (e + size) / 4 → W' p = 0
  low : ∀ p, p < e / 4 → W' p = W p
  free : FreeSt W' f' (e + size)

/-- the memory behind the cut, ahead of the clearing loop -/
structure CutSt (W Wm fm : Int → Int) (e size d : Int) : Prop where
  head : Wm (e / 4) = d
  free : FreeSt Wm fm (e + size)
  low : ∀ p, p < e / 4 → Wm p = W p
theorem CutSt.some {W f : Int → Int} {e b d x : Int} (h : FreeSt W f e) (he : e < 1504) (hb : 16 ≤ b) (h16 : b % 16 = 0) (hfit : b ≤ 1504 - e) (hx : x = e + b) (hz : szW W e - b = 1504 - (e + b)) (hr : 0 < szW W e - b) (hd0 : 0 ≤ d) (hd1 : d < 1024) :
    CutSt W (upd (upd (upd W (x / 4) ((szW W e - b + 1) % 4294967296)) ((x + 4) / 4) 0) (e / 4) (d % 4294967296)) (upd (fun _ => 0) (lnum (szW W e - b)) x) e b d := by
  subst hx
  rw [hz] at hr ⊢
  have e1 := h.lo
  have e2 := h.hi
  have e3 := h.al
  refine ⟨?_, ⟨by omega, by omega, by omega, fun j a b => ?_, fun hc => ⟨?_, ?_⟩⟩, fun p a => ?_⟩
  · unfold upd; rw [if_pos rfl]; omega
  · unfold upd
    split
    · rename_i q; rw [if_pos ⟨by omega, q⟩]
    · rename_i q; rw [if_neg fun r => q r.2]
  · unfold upd; rw [if_neg (by omega), if_neg (by omega), if_pos rfl]; omega
  · unfold upd; rw [if_neg (by omega), if_pos rfl]
  · unfold upd; rw [if_neg (by omega), if_neg (by omega), if_neg (by omega)]
theorem CutSt.all {W f : Int → Int} {e b d : Int} (h : FreeSt W f e) (hb : 16 ≤ b) (h16 : b % 16 = 0) (hfit : b ≤ 1504 - e) (hz : szW W e = 1504 - e) (hr : ¬ 0 < szW W e - b) (hd0 : 0 ≤ d) (hd1 : d < 1024) :
    CutSt W (upd W (e / 4) (d % 4294967296)) (fun _ => 0) e b d := by
  rw [hz] at hr
  have e1 := h.lo
  have e3 := h.al
  refine ⟨?_, ⟨by omega, by omega, by omega, fun j a b => (if_neg (by omega)).symm, fun hc => by omega⟩, fun p a => ?_⟩
  · unfold upd; rw [if_pos rfl]; omega
  · unfold upd; rw [if_neg (by omega)]
structure ClearSt (Wm W8 : Int → Int) (e size : Int) (i : Nat) : Prop where
  zero : ∀ p, e / 4 < p → p < e / 4 + 1 + i → W8 p = 0
  rest : ∀ p, p ≤ e / 4 ∨ (e + size) / 4 ≤ p → W8 p = Wm p
theorem ClearSt.start {Wm : Int → Int} {e size : Int} : ClearSt Wm Wm e size 0 := ⟨fun p a b => by omega, fun _ _ => rfl⟩
theorem ClearSt.step {Wm W8 : Int → Int} {e size : Int} {i : Nat} (h : ClearSt Wm W8 e size i) (he : e % 16 = 0) (hs : size % 16 = 0) (hi : i < (size / 4 - 1).toNat) : ClearSt Wm (upd W8 ((e + 4 + (i : Int) * 4) / 4) (0 % 4294967296)) e size (i + 1) := by
  refine ⟨fun p a b => ?_, fun p a => ?_⟩
  · unfold upd; split
    · rfl
    · exact h.zero p a (by omega)
  · unfold upd; rw [if_neg (by omega)]; exact h.rest p a
theorem ClearSt.done {W Wm W8 fm : Int → Int} {e size d : Int} (h : ClearSt Wm W8 e size (size / 4 - 1).toNat) (c : CutSt W Wm fm e size d) (he : e % 16 = 0) (hb : 16 ≤ size) (hs : size % 16 = 0) : AllocSt W W8 fm e size d :=
  ⟨(h.rest _ (.inl (Int.le_refl _))).trans c.head, fun p a b => h.zero p a (by omega), fun p a => (h.rest p (.inl (by omega))).trans (c.low p a), c.free.congr fun p a => h.rest p (.inr a)⟩
theorem clear_size {e b : Int} (he : e % 16 = 0) (hb : 16 ≤ b) (hs : b % 16 = 0) : Builtin.Range.rangeSize (e + 4) (e + b) 4 = ((b / 4 - 1).toNat : Int) := by
  unfold Builtin.Range.rangeSize
  simp only [Int.reduceGT, if_true]
  split <;> omega
/-- the for's word in alloc -/
inductive AllocJ (w : World) (xh wd fl : Addr) (of9 : Obj) (e size : Int) (Wm : Int → Int) (im : List (Addr × Obj)) (i : Nat) (m1 : Str → Option Value) : List (Addr × Obj) → Prop
  | mk {o8 : Obj} {W8 : Int → Int} {tb : Tok} (M8 : MemIs w o8 W8) (hI : ClearSt Wm W8 e size i) (q : AllAt m1 [("self", .ref xh), ("block", .int e tb)]) : AllocJ w xh wd fl of9 e size Wm im i m1 ((wd, o8) :: (fl, of9) :: im)

section
variable {w : World} {mean : ExcName → Option Value} {mg mb : Str → Option Value} {dp un : Nat} {gd : Option (List Code)} {cn : Str} {cs : Scope} {a : Addr} {ccd : Value} {cl : List (Str × Addr)} {outer : List Env} {A₀ : Around} {base h₀ : Heap} {L : Addr} {m : Str → Option Value} {s : Shared}
  {news : List (Addr × Obj)} {xm dm wd xh dh fl : Addr} {z1 z2 z3 z4 z5 z6 : Int} {k1 k2 t1 k3 k4 t4 k5 t5 k6 : Tok} {n n' : Nat} {o of : Obj} {W f : Int → Int}
set_option maxHeartbeats 8000000 in
theorem alloc_ok {e d : Int} {td : Tok} {Q E : Value → Shared → Prop}
    (B : Below A₀ base outer h₀) (F : Fr h₀ L s.heap m) (X : (hd.heap_39 w.params).In h₀) (T : TopH mean mg mb h₀) (hk : cs.kind = .function) (hd : dp + 16 < recursionLimit) (hu : un + 160 < cLine)
    (N : News h₀ L s.heap news) (i1 : (xm, memObj dm) ∈ news) (i2 : (dm, memDict z1 k1 t1 z2 k2 wd n) ∈ news) (i3 : (wd, o) ∈ news)
    (i4 : (xh, heapObj dh) ∈ news) (i5 : (dh, heapDict z3 k3 xm z4 k4 t4 z5 k5 t5 z6 k6 fl n') ∈ news) (hlo : (wd == sysModules) = false) (hM : MemIs w o W)
    (i6 : (fl, of) ∈ news) (hF : FreeIs of f)
    (n1 : xm ≠ wd) (n2 : dm ≠ wd) (n3 : xh ≠ wd) (n4 : dh ≠ wd) (n5 : fl ≠ wd) (n6 : xm ≠ fl) (n7 : dm ≠ fl) (n8 : xh ≠ fl) (n9 : dh ≠ fl)
    (hS : FreeSt W f e) (hd0 : 0 ≤ d) (hd1 : d < 1024) (hw0 : 0 ≤ W (d / 4)) (hw1 : W (d / 4) < 4096)
    (ret1 : e + bsz (W (d / 4)) ≤ 1504 → ∀ t h' tk' o' of' W' f', Same [wd, fl] s.heap h' → h'.get? wd = some o' → h'.get? fl = some of' → MemIs w o' W' → FreeIs of' f' → AllocSt W W' f' e (bsz (W (d / 4))) d → Q (.int (e + 8) t) { s with heap := h', toks := tk' })
    (ret2 : ¬ (e + bsz (W (d / 4)) ≤ 1504) → ∀ t h' tk', Same [] s.heap h' → Q (.int 0 t) { s with heap := h', toks := tk' }) :
    wpAny (model pw w) (ktrTop dp un gd cn cs L a ccd cl outer) (call (.ref 126) [.ref xh, .int d td]) Q E s := by
  obtain ⟨im, N, x1, x2, tr⟩ := im_of2 N i3 i6
  replace i1 := tr _ i1 n1 n6
  replace i2 := tr _ i2 n2 n7
  replace i4 := tr _ i4 n3 n8
  replace i5 := tr _ i5 n4 n9
  clear tr i3 i6
  have e1 := hS.lo
  have e2 := hS.hi
  have e3 := hS.al
  have hw := hS.wd
  have hsz := hS.size
  have hb := bsz_facts hw0
  k_dflt walk_at "NU enter"
  intro g' L' h' Qb hg' hL' hQ hQn F' N' B' X' T'
  (try dsimp only); (try k_lift B'); (try k_fold)
  k_steps
  · rename Fr _ _ _ _ => F9
    rename News _ _ _ _ => N9
    rename (¬ (e < 1504 ∧ _)) => hno
    exact hQ _ _ (ret2 (by omega) _ _ _ (same_end0 hg' F9 N9 N))
  · exfalso; omega
  · rename MemIs _ _ (upd _ (e / 4) _) => M9
    rename (0 < szW W e - _) => hrest
    rename (bsz _ ≤ 1504 - e) => hfit
    rename (e < 1504) => he0
    have hsz0 := hsz he0
    have hfit2 : e + bsz (W (d / 4)) ≤ 1504 := by omega
    obtain ⟨Wm, Mm, C9⟩ : ∃ Wm, MemIs w _ Wm ∧ CutSt W Wm _ e (bsz (W (d / 4))) d := ⟨_, M9, CutSt.some hS he0 hb.2.2.1 hb.2.1 hfit rfl (by omega) hrest hd0 hd1⟩
    clear M9
    rename Fr _ _ _ _ => F9
    rename News _ _ _ _ => N9
    rename IsRange _ _ _ _ _ _ _ _ => R9
    rename FreeIs _ _ => L9
    refine hold_out ?_
    refine for_range (AllocJ w xh wd fl _ e (bsz (W (d / 4))) _ im) (by rfl) (by first | exact PassesOwn.never | passes_own | with_unfolding_all passes_own)
      R9 (small4 (by omega) (by omega) (by omega) (by omega)) (clear_size e3 hb.2.2.1 hb.2.1) F9 N9 ⟨Mm, ClearSt.start, rfl⟩ ?_ ?_
    · rintro J9 i ti m1 nw h8 tk8 oI Wb hi ⟨M8, hI, q⟩ hoff hlt F8 N8 hJ
      have F7 := fr_over _ q F8
      have hl : wd < J9 := hlt (wd, _) (.head _)
      clear F9 N9 R9 Mm F8 q hlt
      k_steps
      rename Fr _ _ _ _ => F9
      rename News _ _ _ _ => N9
      rename MemIs _ _ (upd _ _ _) => M9
      exact hJ _ ⟨F9, N9, hoff, M9, hI.step e3 hb.2.1 hi, rfl⟩
    · rintro m1 nw h8 tk8 ⟨M8, hI, q⟩ F8 N8
      have F7 := fr_over _ q F8
      clear F9 N9 R9 F8 q
      (try dsimp only); (try k_fold)
      k_steps
      rename Fr _ _ _ _ => F9
      rename News _ _ _ _ => N9
      exact hQ _ _ (ret1 hfit2 _ _ _ _ _ _ _ (same_end2 hg' F9 N9 N) (N9 _ (.head _)).1 (N9 _ (.tail _ (.head _))).1 M8 L9 (hI.done C9 e3 hb.2.2.1 hb.2.1))
  · rename MemIs _ _ (upd _ (e / 4) _) => M9
    rename (¬ 0 < szW W e - _) => hrest
    rename (bsz _ ≤ 1504 - e) => hfit
    rename (e < 1504) => he0
    have hfit2 : e + bsz (W (d / 4)) ≤ 1504 := by omega
    obtain ⟨Wm, Mm, C9⟩ : ∃ Wm, MemIs w _ Wm ∧ CutSt W Wm _ e (bsz (W (d / 4))) d := ⟨_, M9, CutSt.all hS hb.2.2.1 hb.2.1 hfit (hsz he0) hrest hd0 hd1⟩
    clear M9
    rename Fr _ _ _ _ => F9
    rename News _ _ _ _ => N9
    rename IsRange _ _ _ _ _ _ _ _ => R9
    rename FreeIs _ _ => L9
    refine hold_out ?_
    refine for_range (AllocJ w xh wd fl _ e (bsz (W (d / 4))) _ im) (by rfl) (by first | exact PassesOwn.never | passes_own | with_unfolding_all passes_own)
      R9 (small4 (by omega) (by omega) (by omega) (by omega)) (clear_size e3 hb.2.2.1 hb.2.1) F9 N9 ⟨Mm, ClearSt.start, rfl⟩ ?_ ?_
    · rintro J9 i ti m1 nw h8 tk8 oI Wb hi ⟨M8, hI, q⟩ hoff hlt F8 N8 hJ
      have F7 := fr_over _ q F8
      have hl : wd < J9 := hlt (wd, _) (.head _)
      clear F9 N9 R9 Mm F8 q hlt
      k_steps
      rename Fr _ _ _ _ => F9
      rename News _ _ _ _ => N9
      rename MemIs _ _ (upd _ _ _) => M9
      exact hJ _ ⟨F9, N9, hoff, M9, hI.step e3 hb.2.1 hi, rfl⟩
    · rintro m1 nw h8 tk8 ⟨M8, hI, q⟩ F8 N8
      have F7 := fr_over _ q F8
      clear F9 N9 R9 F8 q
      (try dsimp only); (try k_fold)
      k_steps
      rename Fr _ _ _ _ => F9
      rename News _ _ _ _ => N9
      exact hQ _ _ (ret1 hfit2 _ _ _ _ _ _ _ (same_end2 hg' F9 N9 N) (N9 _ (.head _)).1 (N9 _ (.tail _ (.head _))).1 M8 L9 (hI.done C9 e3 hb.2.2.1 hb.2.1))
end


example : True := by (w_top off); trivial
section
variable {prog : Program} {w : World} {A : Around} {E : Value → Shared → Prop} {s : Shared} {h₀ : Heap} {L l : Addr} {m : Str → Option Value} {news : List (Addr × Obj)} {o : Obj}
theorem ints_read {value slice : PySem.Expr} {vs : List Value} {ns : List Int} {nl : Nat} {k : Int} {u : Tok} {Q : Value → Shared → Prop}
    (N : News h₀ L s.heap news) (hm : (l, listOf vs.toArray nl) ∈ news) (hi : IntsAre vs ns) (h0 : 0 ≤ k) (h1 : k < (vs.length : Int)) (h2 : vs.length < 2 ^ 62) (h : ∀ x t, ns[k.toNat]? = some x → Q (.int x t) s)
    (hs : subscripted slice false (.ref l) (.int k u) = operate [.ref l, .int k u] (getItem (.ref l) (.int k u)) := by with_unfolding_all rfl) :
    wpAny (model prog w) A (subscriptTail value slice (.ref l) (.int k u)) Q E s := by
  have hk : k.toNat < vs.length := by omega
  obtain ⟨x, t, e, hx⟩ := ints_get (i := k.toNat) hi (List.getElem?_eq_getElem hk)
  refine list_read N hm ⟨rfl, _, rfl⟩ h0 (by omega) ?_ (h x t hx) hs
  rw [List.getElem?_eq_getElem hk, e]
theorem len_led {a : Array Value} {n : Nat} {Q : Value → Shared → Prop} (N : News h₀ L s.heap news) (hm : (l, listOf a n) ∈ news) (hz : a.size < 2 ^ 62) (h : Q (.int a.size (s.toks + 1)) { s with toks := s.toks + 1 + 1 }) :
    wpAny (model prog w) A (call (.builtin "len") [.ref l]) Q E s := len_list ⟨_, (N _ hm).1, rfl, _, rfl⟩ (by omega) h
theorem len_ledL {vs : List Value} {n : Nat} {Q : Value → Shared → Prop} (N : News h₀ L s.heap news) (hm : (l, listOf vs.toArray n) ∈ news) (hz : vs.length < 2 ^ 62) (h : Q (.int vs.length (s.toks + 1)) { s with toks := s.toks + 1 + 1 }) :
    wpAny (model prog w) A (call (.builtin "len") [.ref l]) Q E s := len_led N hm (by simpa using hz) (by simpa using h)
end
example : True := by
  (k_with "call builtin:len" => (k_here; (with_reducible show wpAny _ _ (call (Value.builtin "len") [Value.ref _]) _ _ _); k_dflt (first | (refine' len_ledL ?N ?m ?z ?_; (case N => k_asm); (case m => k_mem); (case z => omega); k_whole) | (refine' len_led ?N ?m ?z ?_; (case N => k_asm); (case m => k_mem); (case z => omega); k_whole))))
  (k_with "subscriptTail" => (k_here; (with_reducible show wpAny _ _ (subscriptTail _ _ (Value.ref _) (Value.int _ _)) _ _ _); k_dflt (refine' ints_read ?N ?m ?i ?a ?b ?c ?_; (case N => k_asm); (case m => k_mem); (case i => assumption); (case a => first | decide | assumption | omega); (case b => omega); (case c => omega); k_whole; intro _ _ _)))
  (k_with "subscriptTail" => (k_here; (with_reducible show wpAny _ _ (subscriptTail _ _ (Value.ref _) (Value.int _ _)) _ _ _); k_dflt (refine' list_read ?N ?m ?L ?a ?b ?x ?_; (case N => k_asm); (case m => k_mem); (case L => assumption); (case a => decide); (case b => decide); (case x => rfl); k_whole)))
  (k_with "setItem ref int" => (k_here; k_dflt (refine' list_store ?F ?N ?U ?L ?a ?b ?c ?_; (case F => k_asm); (case N => k_asm); (case U => k_updF); (case L => assumption); (case a => decide); (case b => (simp only [List.length_cons, List.length_nil]; decide)); (case c => (simp only [List.length_cons, List.length_nil]; decide)); k_whole; intro _ _ _ N9; (try dsimp only at N9); revert N9; intro _ L9; (simp only [Int.reduceToNat, List.set_cons_succ, List.set_cons_zero] at L9); revert L9; intro _; (try k_sweep))))
  trivial
theorem fm_rng {x k : Int} (h : 1 ≤ k) : 0 ≤ x.fmod k ∧ x.fmod k < k := by
  rw [Int.fmod_eq_emod_of_nonneg _ (by omega)]
  exact ⟨Int.emod_nonneg _ (by omega), Int.emod_lt_of_pos _ (by omega)⟩
theorem fd_nn {x k : Int} (hx : 0 ≤ x) (h : 1 ≤ k) : 0 ≤ x.fdiv k := by
  rw [Int.fdiv_eq_ediv_of_nonneg _ (by omega)]
  exact Int.ediv_nonneg hx (by omega)
/-- the script's hand: its ints, the place, what is left of the figure, the drawn number -/
def HandOk (o : Obj) (ac : Addr) (len : Nat) : Prop := ∃ (i x y : Int) (t1 t2 t3 : Tok), LstIs o [.ref ac, .int i t1, .int x t2, .int y t3] ∧ 0 ≤ i ∧ i ≤ (len : Int) ∧ 0 ≤ x ∧ 0 ≤ y ∧ y < 2147483647

section
variable {w : World} {mean : ExcName → Option Value} {mg mb : Str → Option Value} {dp un : Nat} {gd : Option (List Code)} {cn : Str} {cs : Scope} {a : Addr} {ccd : Value} {cl : List (Str × Addr)} {outer : List Env} {A₀ : Around} {base h₀ : Heap} {L : Addr} {m : Str → Option Value} {s : Shared} {news : List (Addr × Obj)}
set_option maxHeartbeats 8000000 in
theorem pick_ok {ah ac : Addr} {oh : Obj} {cv : List Value} {cns : List Int} {nc : Nat} {k : Int} {tk : Tok} {Q E : Value → Shared → Prop}
    (B : Below A₀ base outer h₀) (F : Fr h₀ L s.heap m) (X : (hd.heap_39 w.params).In h₀) (T : TopH mean mg mb h₀) (hk : cs.kind = .function) (hd : dp + 4 < recursionLimit) (hu : un + 40 < cLine)
    (N : News h₀ L s.heap news) (j1 : (ah, oh) ∈ news) (j2 : (ac, listOf cv.toArray nc) ∈ news) (hi : IntsAre cv cns) (hH : HandOk oh ac cns.length) (hln : cns.length ≤ 63) (hne : ac ≠ ah) (h0 : 1 ≤ k) (h1 : k < 1000)
    (ret : ∀ d t h' tk' oh', 0 ≤ d → d < k → Same [ah] s.heap h' → h'.get? ah = some oh' → HandOk oh' ac cns.length → Q (.int d t) { s with heap := h', toks := tk' }) :
    wpAny (model pw w) (ktrTop dp un gd cn cs L a ccd cl outer) (call (.ref 242) [.ref ah, .int k tk]) Q E s := by
  obtain ⟨i, x, y, t1, t2, t3, hL, b1, b2, b3, b4, b5⟩ := hH
  obtain ⟨im, N, x1, tr⟩ := im_of1 N j1
  replace j2 := tr _ j2 hne
  clear tr j1
  have hcl := hi.length
  k_dflt walk_at "NU enter"
  intro g' L' h' Qb hg' hL' hQ hQn F' N' B' X' T'
  (try dsimp only); (try k_lift B'); (try k_fold)
  k_steps
  all_goals (
    rename Fr _ _ _ _ => F9
    rename News _ _ _ _ => N9
    rename LstIs _ _ => L9
    refine hQ _ _ (ret _ _ _ _ _ (fm_rng h0).1 (fm_rng h0).2 (same_end1 hg' F9 N9 N) (N9 _ (.head _)).1 ⟨_, _, _, _, _, _, L9, by first | assumption | omega, by first | assumption | omega, ?_, ?_, ?_⟩)
    · first | assumption | exact fd_nn (by first | assumption | omega) h0
    · first | assumption | exact (fm_rng (by decide)).1
    · first | assumption | exact (fm_rng (by decide)).2)
end


example : True := by (w_top off); trivial
structure Kd where
  wh : Int
  wide : Int
  offs : List Int
  ad : Addr
structure Rc where
  r : Int
  k : Kd

abbrev tupO (vs : List Value) : Obj := { cls := .type "tuple", data := .seq vs.toArray }

def Rel2 {α : Type} (R : Value → α → Prop) (vs : List Value) (xs : List α) : Prop := vs.length = xs.length ∧ ∀ (i : Nat) (v : Value) (x : α), vs[i]? = some v → xs[i]? = some x → R v x
theorem Rel2.nil {α : Type} {R : Value → α → Prop} : Rel2 R [] [] := ⟨rfl, fun i v x h => by simp at h⟩
theorem Rel2.get {α : Type} {R : Value → α → Prop} {vs : List Value} {xs : List α} (h : Rel2 R vs xs) {i : Nat} {v : Value} (hv : vs[i]? = some v) : ∃ x, xs[i]? = some x ∧ R v x := by
  have h1 : i < vs.length := by
    rcases Nat.lt_or_ge i vs.length with h | h
    · exact h
    · rw [List.getElem?_eq_none h] at hv; cases hv
  have h2 : i < xs.length := h.1 ▸ h1
  exact ⟨xs[i], by simp [h2], h.2 i v xs[i] hv (by simp [h2])⟩
theorem Rel2.snoc {α : Type} {R : Value → α → Prop} {vs : List Value} {xs : List α} {v : Value} {x : α} (h : Rel2 R vs xs) (hx : R v x) : Rel2 R (vs ++ [v]) (xs ++ [x]) := by
  refine ⟨by simp [h.1], fun i u y hu hy => ?_⟩
  rcases Nat.lt_trichotomy i vs.length with q | q | q
  · rw [List.getElem?_append_left q] at hu
    rw [List.getElem?_append_left (h.1 ▸ q)] at hy
    exact h.2 i u y hu hy
  · subst q
    rw [h.1] at hy
    simp at hu hy
    rw [← hu, ← hy]; exact hx
  · rw [List.getElem?_eq_none (by simp; omega)] at hu; cases hu
theorem Rel2.mono {α : Type} {R R' : Value → α → Prop} {vs : List Value} {xs : List α} (h : Rel2 R vs xs) (hR : ∀ v x, R v x → R' v x) : Rel2 R' vs xs := ⟨h.1, fun i v x hv hx => hR v x (h.2 i v x hv hx)⟩

def LisRef (S : List Addr) (h : Heap) (oa : Addr) (ns : List Int) : Prop := ∃ ovs no, h.get? oa = some (listOf (List.toArray ovs) no) ∧ IntsAre ovs ns ∧ oa ∉ S
def KindRef (S : List Addr) (h : Heap) (ta : Addr) (k : Kd) : Prop := ∃ oa t1 t2, h.get? ta = some (tupO [.int k.wh t1, .int k.wide t2, .ref oa]) ∧ ta ∉ S ∧ LisRef S h oa k.offs ∧ ta = k.ad
def KindV (S : List Addr) (h : Heap) (v : Value) (k : Kd) : Prop := ∃ ta, v = .ref ta ∧ KindRef S h ta k
def RecRef (S : List Addr) (h : Heap) (ra : Addr) (c : Rc) : Prop := ∃ t ta, h.get? ra = some (tupO [.int c.r t, .ref ta]) ∧ ra ∉ S ∧ KindRef S h ta c.k
def RecV (S : List Addr) (h : Heap) (v : Value) (c : Rc) : Prop := ∃ ra, v = .ref ra ∧ RecRef S h ra c

/-- what stands off S stays -/
def Stays (S : List Addr) (h h' : Heap) : Prop := ∀ b o, b ∉ S → h.get? b = some o → h'.get? b = some o
theorem LisRef.stays {S : List Addr} {h h' : Heap} {oa : Addr} {ns : List Int} (x : LisRef S h oa ns) (s : Stays S h h') : LisRef S h' oa ns :=
  let ⟨ovs, no, a, b, c⟩ := x; ⟨ovs, no, s _ _ c a, b, c⟩
theorem KindRef.stays {S : List Addr} {h h' : Heap} {ta : Addr} {k : Kd} (x : KindRef S h ta k) (s : Stays S h h') : KindRef S h' ta k :=
  let ⟨oa, t1, t2, a, b, c⟩ := x; ⟨oa, t1, t2, s _ _ b a, b, c.1.stays s, c.2⟩
theorem KindV.stays {S : List Addr} {h h' : Heap} {v : Value} {k : Kd} (x : KindV S h v k) (s : Stays S h h') : KindV S h' v k := let ⟨ta, a, b⟩ := x; ⟨ta, a, b.stays s⟩
theorem RecRef.stays {S : List Addr} {h h' : Heap} {ra : Addr} {c : Rc} (x : RecRef S h ra c) (s : Stays S h h') : RecRef S h' ra c :=
  let ⟨t, ta, a, b, d⟩ := x; ⟨t, ta, s _ _ b a, b, d.stays s⟩
theorem RecV.stays {S : List Addr} {h h' : Heap} {v : Value} {c : Rc} (x : RecV S h v c) (s : Stays S h h') : RecV S h' v c := let ⟨ra, a, b⟩ := x; ⟨ra, a, b.stays s⟩
theorem LisRef.wider {S S' : List Addr} {h : Heap} {oa : Addr} {ns : List Int} (x : LisRef S h oa ns) (hS : ∀ b o, b ∉ S → h.get? b = some o → b ∉ S') : LisRef S' h oa ns :=
  let ⟨ovs, no, a, b, c⟩ := x; ⟨ovs, no, a, b, hS _ _ c a⟩
theorem KindRef.wider {S S' : List Addr} {h : Heap} {ta : Addr} {k : Kd} (x : KindRef S h ta k) (hS : ∀ b o, b ∉ S → h.get? b = some o → b ∉ S') : KindRef S' h ta k :=
  let ⟨oa, t1, t2, a, b, c⟩ := x; ⟨oa, t1, t2, a, hS _ _ b a, c.1.wider hS, c.2⟩

section
variable {prog : Program} {w : World} {A : Around} {E : Value → Shared → Prop} {s : Shared} {g h₀ : Heap} {L l : Addr} {m : Str → Option Value} {news : List (Addr × Obj)} {o : Obj} {S : List Addr}
theorem rel_read {α : Type} {R : Value → α → Prop} {value slice : PySem.Expr} {vs : List Value} {xs : List α} {nl : Nat} {k : Int} {u : Tok} {Q : Value → Shared → Prop}
    (N : News h₀ L s.heap news) (hm : (l, listOf vs.toArray nl) ∈ news) (hR : Rel2 R vs xs) (h0 : 0 ≤ k) (h1 : k < (vs.length : Int)) (h2 : vs.length < 2 ^ 62) (h : ∀ v x, R v x → vs[k.toNat]? = some v → xs[k.toNat]? = some x → Q v s)
    (hs : subscripted slice false (.ref l) (.int k u) = operate [.ref l, .int k u] (getItem (.ref l) (.int k u)) := by with_unfolding_all rfl) :
    wpAny (model prog w) A (subscriptTail value slice (.ref l) (.int k u)) Q E s := by
  have hk : k.toNat < vs.length := by omega
  obtain ⟨x, hx, hr⟩ := hR.get (List.getElem?_eq_getElem hk)
  exact list_read N hm ⟨rfl, _, rfl⟩ h0 (by omega) (List.getElem?_eq_getElem hk) (h _ x hr (List.getElem?_eq_getElem hk) hx) hs

theorem tup_read {value slice : PySem.Expr} {ta : Addr} {vs : List Value} {k : Int} {u : Tok} {j : Nat} {x : Value} {Q : Value → Shared → Prop} (F : Fr g L s.heap m) (ht : g.get? ta = some (tupO vs))
    (hlo : -(2 ^ 63) ≤ k) (hhi : k < 2 ^ 63) (hj : seqIndex? k vs.length = some j) (hx : vs[j]? = some x) (h : Q x s)
    (hs : subscripted slice false (.ref ta) (.int k u) = operate [.ref ta, .int k u] (getItem (.ref ta) (.int k u)) := by with_unfolding_all rfl) :
    wpAny (model prog w) A (subscriptTail value slice (.ref ta) (.int k u)) Q E s :=
  item_tupleT ⟨_, F.keep _ _ ht, rfl, _, rfl⟩ hlo hhi hj hx h hs

theorem kind_0 {value slice : PySem.Expr} {ta : Addr} {k : Kd} {u : Tok} {Q : Value → Shared → Prop} (F : Fr g L s.heap m) (hK : KindRef S g ta k) (h : ∀ t, Q (.int k.wh t) s)
    (hs : subscripted slice false (.ref ta) (.int 0 u) = operate [.ref ta, .int 0 u] (getItem (.ref ta) (.int 0 u)) := by with_unfolding_all rfl) :
    wpAny (model prog w) A (subscriptTail value slice (.ref ta) (.int 0 u)) Q E s :=
  let ⟨_, t1, _, a, _⟩ := hK; tup_read F a (by decide) (by decide) rfl rfl (h t1) hs
theorem kind_1 {value slice : PySem.Expr} {ta : Addr} {k : Kd} {u : Tok} {Q : Value → Shared → Prop} (F : Fr g L s.heap m) (hK : KindRef S g ta k) (h : ∀ t, Q (.int k.wide t) s)
    (hs : subscripted slice false (.ref ta) (.int 1 u) = operate [.ref ta, .int 1 u] (getItem (.ref ta) (.int 1 u)) := by with_unfolding_all rfl) :
    wpAny (model prog w) A (subscriptTail value slice (.ref ta) (.int 1 u)) Q E s :=
  let ⟨_, _, t2, a, _⟩ := hK; tup_read F a (by decide) (by decide) rfl rfl (h t2) hs
theorem kind_2 {value slice : PySem.Expr} {ta : Addr} {k : Kd} {u : Tok} {Q : Value → Shared → Prop} (F : Fr g L s.heap m) (hK : KindRef S g ta k) (h : ∀ oa, LisRef S g oa k.offs → Q (.ref oa) s)
    (hs : subscripted slice false (.ref ta) (.int 2 u) = operate [.ref ta, .int 2 u] (getItem (.ref ta) (.int 2 u)) := by with_unfolding_all rfl) :
    wpAny (model prog w) A (subscriptTail value slice (.ref ta) (.int 2 u)) Q E s :=
  let ⟨oa, _, _, a, _, c⟩ := hK; tup_read F a (by decide) (by decide) rfl rfl (h oa c.1) hs
theorem rec_0 {value slice : PySem.Expr} {ra : Addr} {c : Rc} {u : Tok} {Q : Value → Shared → Prop} (F : Fr g L s.heap m) (hK : RecRef S g ra c) (h : ∀ t, Q (.int c.r t) s)
    (hs : subscripted slice false (.ref ra) (.int 0 u) = operate [.ref ra, .int 0 u] (getItem (.ref ra) (.int 0 u)) := by with_unfolding_all rfl) :
    wpAny (model prog w) A (subscriptTail value slice (.ref ra) (.int 0 u)) Q E s :=
  let ⟨t, _, a, _⟩ := hK; tup_read F a (by decide) (by decide) rfl rfl (h t) hs
theorem rec_unpack {env : Env} {elts : List PySem.Expr} {k} {pos : Pos} {ra : Addr} {c : Rc} {Q : Unit → Shared → Prop} (F : Fr g L s.heap m) (N : News g L s.heap news) (hK : RecRef S g ra c)
    (hh : A.handled = none) (hn : (assignEach elts env).length = 2) (hstar : (assignEach elts env).findIdx? (·.1) = none)
    (h : ∀ t ta h', KindRef S g ta c.k → Fr g L h' m → News g L h' news → wpAny (model prog w) A (assignInOrder ((assignEach elts env).map (·.2)) [.int c.r t, .ref ta]) Q E { s with heap := h' }) :
    wpAny (model prog w) A (assign (.Tuple elts k pos) env (.ref ra)) Q E s :=
  let ⟨t, ta, a, _, d⟩ := hK
  unpackN_ (items := (List.toArray [.int c.r t, .ref ta])) F N ⟨_, F.keep _ _ a, rfl, _, rfl⟩ hh hn hstar fun h' F' N' => h t ta h' d F' N'
end
example : True := by
  (k_with "subscriptTail" => (k_here; (with_reducible show wpAny _ _ (subscriptTail _ _ (Value.ref _) (Value.int _ _)) _ _ _); k_dflt (first | (refine' rel_read ?N ?m ?R ?a ?b ?c ?_; (case N => k_asm); (case m => k_mem); (case R => assumption); (case a => first | decide | assumption | omega); (case b => omega); (case c => omega); k_whole; intro _ _ r9 e9 f9; obtain ⟨a9, r9, s9⟩ := r9; subst r9; revert e9 f9 a9 s9; intro _ _ _ _) | ((with_reducible show wpAny _ _ (subscriptTail _ _ (Value.ref _) (Value.int 0 _)) _ _ _); refine' kind_0 ?F ?K ?_; (case F => k_asm); (case K => assumption); k_whole; intro _) | ((with_reducible show wpAny _ _ (subscriptTail _ _ (Value.ref _) (Value.int 1 _)) _ _ _); refine' kind_1 ?F ?K ?_; (case F => k_asm); (case K => assumption); k_whole; intro _) | ((with_reducible show wpAny _ _ (subscriptTail _ _ (Value.ref _) (Value.int 2 _)) _ _ _); refine' kind_2 ?F ?K ?_; (case F => k_asm); (case K => assumption); k_whole; intro _ _) | ((with_reducible show wpAny _ _ (subscriptTail _ _ (Value.ref _) (Value.int 0 _)) _ _ _); refine' rec_0 ?F ?K ?_; (case F => k_asm); (case K => assumption); k_whole; intro _))))
  (k_with "assign Tuple" => (k_here; (with_reducible show wpAny _ _ (assign (Expr.Tuple _ _ _) _ (Value.ref _)) _ _ _); k_dflt (refine' rec_unpack ?F ?N ?K ?k1 ?k2 ?k3 ?_; (case F => k_asm); (case N => k_asm); (case K => assumption); (case k1 => exact rfl); (case k2 => exact rfl); (case k3 => exact rfl); k_whole; intro _ _ _ _ _ _; (try k_sweep))))
  (k_with "call ref" => (k_here; (with_reducible show wpAny _ _ (call (Value.ref 242) _ _) _ _ _); k_dflt (refine' pick_ok ?B ?F ?X ?T ?hk ?hd ?hu ?N ?j1 ?j2 ?i ?H ?l ?ne ?h0 ?h1 ?_; (case B => k_asm); (case F => k_asm); (case X => k_asm); (case T => k_asm); (case hk => first | exact rfl | assumption); (case hd => ktr_room); (case hu => ktr_units); (case N => k_asm); (case j1 => k_mem); (case H => assumption); (case j2 => k_mem); (case i => assumption); (case l => assumption); (case ne => k_ne); (case h0 => first | decide | assumption | omega); (case h1 => first | decide | assumption | omega); k_whole; intro _ _ _ _ _ _ _ S9 G9 _; (have _ := Fr.same1 (by k_asm) (by k_asm) (by k_mem) S9); (have _ := News.same1 (by k_asm) (by k_upd) S9 G9); clear S9 G9; (try k_sweep))))
  (k_with "call ref" => (k_here; (with_reducible show wpAny _ _ (call (Value.ref 126) _ _) _ _ _); k_dflt (refine' alloc_ok ?B ?F ?X ?T ?hk ?hd ?hu ?N ?i1 ?i2 ?i3 ?i4 ?i5 ?hlo ?hM ?i6 ?hF ?n1 ?n2 ?n3 ?n4 ?n5 ?n6 ?n7 ?n8 ?n9 ?hS ?a1 ?a2 ?a3 ?a4 ?r1 ?r2; walk_at "NU prem5"; (case i6 => k_mem); (case hF => assumption); (case n1 => k_ne); (case n2 => k_ne); (case n3 => k_ne); (case n4 => k_ne); (case n5 => k_ne); (case n6 => k_ne); (case n7 => k_ne); (case n8 => k_ne); (case n9 => k_ne); (case hS => assumption); (case a1 => omega); (case a2 => omega); (case a3 => omega); (case a4 => omega); (all_goals k_whole); (case' r1 => ((intro _ _ _ _ _ _ _ _ S9 G9 H9 _ _ _); (have _ := Fr.same2 (by k_asm) (by k_asm) (by k_mem) (by k_mem) S9); (have _ := News.same2 (by k_asm) (by k_upd) (by k_upd) S9 G9 H9 (by k_ne)); clear S9 G9 H9; (try k_sweep))); (case' r2 => ((intro _ _ _ _ S9); (have _ := Fr.same0 (by k_asm) S9); (have _ := News.same0 (by k_asm) S9); clear S9; (try k_sweep))))))
  trivial
theorem news_mid {g h : Heap} {L : Addr} {D J : Addr × Obj} (pre : List (Addr × Obj)) {ex : List (Addr × Obj)} (N : News g L h (D :: J :: (pre ++ ex))) : News g L h (J :: (pre ++ D :: ex)) := fun p hp => N p (by
  rcases List.mem_cons.mp hp with h | h
  · rw [h]; exact .tail _ (.head _)
  · rcases List.mem_append.mp h with h | h
    · exact .tail _ (.tail _ (List.mem_append_left _ h))
    · rcases List.mem_cons.mp h with h | h
      · rw [h]; exact .head _
      · exact .tail _ (.tail _ (List.mem_append_right _ h)))
def RecIn (S : List Addr) (g : Heap) (ex : List (Addr × Obj)) (v : Value) (c : Rc) : Prop := ∃ ra t ta, v = .ref ra ∧ (ra, tupO [.int c.r t, .ref ta]) ∈ ex ∧ KindRef S g ta c.k
structure MadeInv (ks : List Kd) (Inv : (Int → Int) → (Int → Int) → Int → List Rc → Prop) : Prop where
  free : ∀ {W f e rs}, Inv W f e rs → FreeSt W f e
  kind : ∀ {W f e rs k}, Inv W f e rs → k ∈ ks → 0 ≤ k.wh ∧ k.wh < 1024 ∧ 0 ≤ W (k.wh / 4) ∧ W (k.wh / 4) < 4096
  step : ∀ {W f e rs k W' f'}, Inv W f e rs → k ∈ ks → e + bsz (W (k.wh / 4)) ≤ 1504 → AllocSt W W' f' e (bsz (W (k.wh / 4))) k.wh → Inv W' f' (e + bsz (W (k.wh / 4))) (rs ++ [⟨e + 8, k⟩])

/-- made's ledger: what changes ahead, the rest as one list -/
inductive ImMade (h₀ h : Heap) (L xm dm wd xh dh fl ah ac ak : Addr) (a1 a2 a3 a4 a5 a6 a7 a8 a9 : Obj) : Prop
  | mk (im : List (Addr × Obj)) (N : News h₀ L h ((wd, a3) :: (fl, a6) :: (ah, a7) :: im)) (v1 : (xm, a1) ∈ im) (v2 : (dm, a2) ∈ im) (v4 : (xh, a4) ∈ im) (v5 : (dh, a5) ∈ im) (v6 : (ac, a8) ∈ im) (v7 : (ak, a9) ∈ im)
      (x1 : ∀ p ∈ im, p.1 ≠ wd) (x2 : ∀ p ∈ im, p.1 ≠ fl) (x3 : ∀ p ∈ im, p.1 ≠ ah) (hmap : im.map (·.1) = [xm, dm, xh, dh, ac, ak])
      (d1 : xm < fl) (d2 : dm < wd) (d3 : dm < fl) (d4 : wd < xh) (d5 : wd < dh) (d6 : wd < fl) (d7 : dh < fl) (d8 : ah < wd) (d9 : ah < fl) : ImMade h₀ h L xm dm wd xh dh fl ah ac ak a1 a2 a3 a4 a5 a6 a7 a8 a9
theorem im_made {h₀ h : Heap} {L : Addr} {news : List (Addr × Obj)} {xm dm wd xh dh fl ah ac ak : Addr} {a1 a2 a3 a4 a5 a6 a7 a8 a9 : Obj} (N : News h₀ L h news) (i1 : (xm, a1) ∈ news) (i2 : (dm, a2) ∈ news) (i3 : (wd, a3) ∈ news) (i4 : (xh, a4) ∈ news) (i5 : (dh, a5) ∈ news) (i6 : (fl, a6) ∈ news) (j1 : (ah, a7) ∈ news) (j2 : (ac, a8) ∈ news) (j3 : (ak, a9) ∈ news)
    (l1 : ac < ah) (l2 : ah < dm) (l3 : dm < xm) (l4 : xm < wd) (l5 : wd < ak) (l6 : ak < dh) (l7 : dh < xh) (l8 : xh < fl) : ImMade h₀ h L xm dm wd xh dh fl ah ac ak a1 a2 a3 a4 a5 a6 a7 a8 a9 := by
  have d5 := Nat.lt_trans l5 l6; have d4 := Nat.lt_trans d5 l7; have d6 := Nat.lt_trans d4 l8; have d1 := Nat.lt_trans l4 d6; have d2 := Nat.lt_trans l3 l4; have d3 := Nat.lt_trans d2 d6; have d7 := Nat.lt_trans l7 l8; have d8 := Nat.lt_trans l2 d2; have d9 := Nat.lt_trans d8 d6
  have c1 := Nat.lt_trans l1 d8; have c2 := Nat.lt_trans l1 d9; have c3 := Nat.lt_trans l2 l3; have c4 := Nat.lt_trans d8 l5; have c5 := Nat.lt_trans d8 d5; have c6 := Nat.lt_trans d8 d4; have c7 := Nat.lt_trans l6 d7
  refine ⟨[(xm, a1), (dm, a2), (xh, a4), (dh, a5), (ac, a8), (ak, a9)], fun p hp => ?_, by simp, by simp, by simp, by simp, by simp, by simp, ?_, ?_, ?_, rfl, d1, d2, d3, d4, d5, d6, d7, d8, d9⟩
  · simp only [List.mem_cons, List.not_mem_nil, or_false] at hp
    rcases hp with rfl | rfl | rfl | rfl | rfl | rfl | rfl | rfl | rfl <;> (refine N _ ?_ <;> assumption)
  · simp only [List.forall_mem_cons, List.not_mem_nil, false_implies, implies_true, and_true]
    exact ⟨neLt l4, neLt d2, neGt d4, neGt d5, neLt c1, neGt l5⟩
  · simp only [List.forall_mem_cons, List.not_mem_nil, false_implies, implies_true, and_true]
    exact ⟨neLt d1, neLt d3, neLt l8, neLt d7, neLt c2, neLt c7⟩
  · simp only [List.forall_mem_cons, List.not_mem_nil, false_implies, implies_true, and_true]
    exact ⟨neGt c3, neGt l2, neGt c6, neGt c5, neLt l1, neGt c4⟩
/-- the for's word in made: ex are the records' tuples -/
inductive MadeJ (w : World) (g : Heap) (xh wd fl ah ac ak ar : Addr) (S : List Addr) (len : Nat) (im : List (Addr × Obj)) (Inv : (Int → Int) → (Int → Int) → Int → List Rc → Prop) (i : Nat) (m1 : Str → Option Value) : List (Addr × Obj) → Prop
  | mk {ex : List (Addr × Obj)} {ra : Array Value} {nr : Nat} {rs : List Rc} {W8 f8 : Int → Int} {e8 : Int} {o8 of8 oh8 : Obj} (M8 : MemIs w o8 W8) (L8 : FreeIs of8 f8) (H8 : HandOk oh8 ac len) (I8 : Inv W8 f8 e8 rs) (hrs : rs.length ≤ i)
      (hR : Rel2 (RecIn S g ex) ra.toList rs) (hex : ∀ p ∈ ex, ar < p.1) (q : AllAt m1 [("hand", .ref ah), ("area", .ref xh), ("kinds", .ref ak), ("records", .ref ar)]) : MadeJ w g xh wd fl ah ac ak ar S len im Inv i m1 ((ar, listOf ra nr) :: (wd, o8) :: (fl, of8) :: (ah, oh8) :: (ex ++ im))
theorem app_ne {ex im : List (Addr × Obj)} {d ar : Addr} (hex : ∀ p ∈ ex, ar < p.1) (h : d < ar) (x : ∀ p ∈ im, p.1 ≠ d) : ∀ p ∈ ex ++ im, p.1 ≠ d := fun p hp =>
  (List.mem_append.mp hp).elim (fun q => neGt (Nat.lt_trans h (hex p q))) (x p)
theorem app_ne' {ex im : List (Addr × Obj)} {ar : Addr} (hex : ∀ p ∈ ex, ar < p.1) (x : ∀ p ∈ im, p.1 < ar) : ∀ p ∈ ex ++ im, p.1 ≠ ar := fun p hp =>
  (List.mem_append.mp hp).elim (fun q => neGt (hex p q)) fun q => neLt (x p q)
theorem off_in {J rt : Addr} {a b c d : Addr × Obj} {q : Obj} {tl : List (Addr × Obj)} (h : J ∉ (a :: b :: c :: d :: tl).map (·.1)) (hn : J ≠ rt) : J ∉ (a :: b :: c :: d :: (rt, q) :: tl).map (·.1) := fun z => by
  simp only [List.map_cons, List.mem_cons, not_or] at h z
  obtain ⟨h1, h2, h3, h4, h5⟩ := h
  rcases z with z | z | z | z | z | z
  · exact h1 z
  · exact h2 z
  · exact h3 z
  · exact h4 z
  · exact hn z
  · exact h5 z
/-- what made hands on: an object at or behind ar was not there -/
theorem made_none {h g : Heap} {hid : List Addr} {ar q : Addr} (hg : ∀ b o, b ∉ hid → h.get? b = some o → g.get? b = some o) (hh : ∀ b ∈ hid, b < ar) (hq : ar ≤ q) (hn : g.get? q = none) : h.get? q = none := by
  cases e : h.get? q with
  | none => rfl
  | some o =>
    have := hg q o (fun z => absurd (hh q z) (Nat.not_lt.mpr hq)) e
    rw [hn] at this; cases this
theorem RecIn.end {S S' : List Addr} {g h : Heap} {L ar : Addr} {m : Str → Option Value} {ex : List (Addr × Obj)} {v : Value} {c : Rc} (F : Fr g L h m) (hS : ∀ b, b ∈ S' → b = ar ∨ b ∈ S) (gar : g.get? ar = none) : RecIn S g ex v c → RecIn S' h ex v c :=
  fun ⟨q, t, ta, e, hm, hd⟩ => ⟨q, t, ta, e, hm, (hd.wider fun b o' hb e z => (hS b z).elim (fun r => by rw [r, gar] at e; cases e) hb).stays fun b o' _ e => F.keep b o' e⟩

section
variable {w : World} {mean : ExcName → Option Value} {mg mb : Str → Option Value} {dp un : Nat} {gd : Option (List Code)} {cn : Str} {cs : Scope} {a : Addr} {ccd : Value} {cl : List (Str × Addr)} {outer : List Env} {A₀ : Around} {base h₀ : Heap} {L : Addr} {m : Str → Option Value} {s : Shared}
  {news : List (Addr × Obj)} {xm dm wd xh dh fl : Addr} {z1 z2 z3 z4 z5 z6 : Int} {k1 k2 t1 k3 k4 t4 k5 t5 k6 : Tok} {n n' : Nat} {o of : Obj} {W f : Int → Int}
  {ah ac ak : Addr} {oh : Obj} {cv kvs : List Value} {cns : List Int} {nc nk : Nat} {ks : List Kd}
set_option maxHeartbeats 8000000 in
theorem made_ok {e mo : Int} {tm : Tok} {Inv : (Int → Int) → (Int → Int) → Int → List Rc → Prop} {Q E : Value → Shared → Prop}
    (B : Below A₀ base outer h₀) (F : Fr h₀ L s.heap m) (X : (hd.heap_39 w.params).In h₀) (T : TopH mean mg mb h₀) (hk : cs.kind = .function) (hd : dp + 20 < recursionLimit) (hu : un + 200 < cLine)
    (N : News h₀ L s.heap news) (i1 : (xm, memObj dm) ∈ news) (i2 : (dm, memDict z1 k1 t1 z2 k2 wd n) ∈ news) (i3 : (wd, o) ∈ news)
    (i4 : (xh, heapObj dh) ∈ news) (i5 : (dh, heapDict z3 k3 xm z4 k4 t4 z5 k5 t5 z6 k6 fl n') ∈ news) (hlo : (wd == sysModules) = false) (hM : MemIs w o W)
    (i6 : (fl, of) ∈ news) (hF : FreeIs of f) (j1 : (ah, oh) ∈ news) (j2 : (ac, listOf cv.toArray nc) ∈ news) (hi : IntsAre cv cns) (hH : HandOk oh ac cns.length) (hln : cns.length ≤ 63)
    (j3 : (ak, listOf kvs.toArray nk) ∈ news) (hK : Rel2 (KindV [ac, ah, dm, xm, wd, ak, dh, xh, fl] s.heap) kvs ks) (hk0 : 0 < ks.length) (hk4 : ks.length ≤ 4)
    (l1 : ac < ah) (l2 : ah < dm) (l3 : dm < xm) (l4 : xm < wd) (l5 : wd < ak) (l6 : ak < dh) (l7 : dh < xh) (l8 : xh < fl)
    (I : MadeInv ks Inv) (hI : Inv W f e []) (hm0 : 0 ≤ mo) (hm1 : mo ≤ 12)
    (ret : ∀ ar rvs nr rs ex W' f' e' h' tk' o' of' oh', Same [wd, fl, ah] s.heap h' → h'.get? wd = some o' → h'.get? fl = some of' → h'.get? ah = some oh' → MemIs w o' W' → FreeIs of' f' → HandOk oh' ac cns.length → Inv W' f' e' rs → rs.length ≤ 12 →
      h'.get? ar = some (listOf (List.toArray rvs) nr) → fl < ar → s.heap.get? ar = none → Rel2 (RecIn [ac, ah, dm, xm, wd, ak, dh, xh, fl, ar] h' ex) rvs rs → (∀ p ∈ ex, h'.get? p.1 = some p.2 ∧ s.heap.get? p.1 = none ∧ ar < p.1) → Q (.ref ar) { s with heap := h', toks := tk' }) :
    wpAny (model pw w) (ktrTop dp un gd cn cs L a ccd cl outer) (call (.ref 261) [.ref ah, .ref xh, .ref ak, .int mo tm]) Q E s := by
  obtain ⟨im, N, v1, v2, v4, v5, v6, v7, x1, x2, x3, hmap, d1, d2, d3, d4, d5, d6, d7, d8, d9⟩ := im_made N i1 i2 i3 i4 i5 i6 j1 j2 j3 l1 l2 l3 l4 l5 l6 l7 l8
  clear i1 i2 i3 i4 i5 i6 j1 j2 j3
  have hkl := hK.1
  k_dflt walk_at "NU enter"
  intro g' L' h' Qb hg' hL' hQ hQn F' N' B' X' T'
  have hKg : Rel2 (KindV [ac, ah, dm, xm, wd, ak, dh, xh, fl] g') kvs ks := hK.mono fun v x q => q.stays fun b o n e => hg' b o (fun z => n (by
    simp only [List.map_cons, hmap, List.mem_cons, List.not_mem_nil, or_false] at z ⊢
    rcases z with rfl | rfl | rfl | rfl | rfl | rfl | rfl | rfl | rfl <;> simp)) e
  (try dsimp only); (try k_lift B'); (try k_fold)
  k_steps
  rename IsRange _ _ _ _ _ _ _ _ => R9
  rename Fr _ _ _ _ => F9
  rename News _ _ _ _ => N9
  rename_i ar hx1 l9 hx2 h9x tk9x t9x u9x v9x K9
  clear K9
  obtain ⟨r1, r2, r3, r4⟩ := l9
  have y4 : ∀ p ∈ im, p.1 < ar := ktn_ltOf r4
  refine hold_out ?_
  refine for_range (n := mo.toNat) (MadeJ w g' xh wd fl ah ac ak ar [ac, ah, dm, xm, wd, ak, dh, xh, fl] cns.length im Inv) (by rfl) (by first | exact PassesOwn.never | passes_own | with_unfolding_all passes_own)
    R9 (small_one (by omega) (by omega) (by omega) (by omega)) (by unfold Builtin.Range.rangeSize; simp only [Int.reduceGT, if_true]; split <;> omega) F9 N9
    (MadeJ.mk (ex := []) (ra := #[]) hM hF hH hI (Nat.le_refl _) Rel2.nil (fun p h => nomatch h) rfl) ?_ ?_
  · rintro J9 i ti m1 nw h8 tk8 oI Wb hi9 ⟨M8, L8, H8, I8, hrs, hR, hex, q⟩ hoff hlt F8 N8 hJ
    rename_i ex ra nr rs W8 f8 e8 o8 of8 oh8
    have F7 := fr_over _ q F8
    have hl : ar < J9 := hlt (ar, _) (.head _)
    clear F9 N9 R9 F8 q hlt
    have h1 : wd < J9 := Nat.lt_trans r1 hl
    have h2 : fl < J9 := Nat.lt_trans r2 hl
    have h3 : ah < J9 := Nat.lt_trans r3 hl
    have hS8 := I.free I8
    have lo8 := hS8.lo
    replace x1 := app_ne hex r1 x1
    replace x2 := app_ne hex r2 x2
    replace x3 := app_ne hex r3 x3
    have x4 := app_ne' hex y4
    replace v1 := List.mem_append_right ex v1
    replace v2 := List.mem_append_right ex v2
    replace v4 := List.mem_append_right ex v4
    replace v5 := List.mem_append_right ex v5
    replace v6 := List.mem_append_right ex v6
    replace v7 := List.mem_append_right ex v7
    have hra : ra.size = rs.length := by rw [← hR.1, Array.length_toList]
    k_steps
    rename (ks[_]? = some _) => hkx
    have hmem := List.mem_of_getElem? hkx
    obtain ⟨y1, y2, y3, y4⟩ := I.kind I8 hmem
    refine hold_out ?_
    k_steps
    · rename Fr _ _ _ _ => F9
      rename News _ _ _ _ => N9
      rename HandOk _ _ _ => H9
      exact hJ _ ⟨F9, N9, hoff, M8, L8, H9, I8, Nat.le_succ_of_le hrs, hR, hex, rfl⟩
    · rename Fr _ _ _ _ => F9
      rename News _ _ _ _ => N9
      rename HandOk _ _ _ => H9
      rename MemIs _ _ _ => M9
      rename FreeIs _ _ => L9
      rename AllocSt _ _ _ _ _ _ => A9
      rename KindRef _ _ _ _ => s9
      rename (e8 + bsz _ ≤ 1504) => q9
      rename (J9 < _ ∧ _) => l19
      exact hJ _ ⟨F9, news_mid [(ar, _), (wd, _), (fl, _), (ah, _)] N9, off_in hoff (Nat.ne_of_lt l19.1), MadeJ.mk (ex := (_, _) :: ex) M9 L9 H9 (I.step I8 hmem q9 A9)
        (by rw [List.length_append]; exact Nat.succ_le_succ hrs) (by
          rw [Array.toList_push]
          exact (hR.mono fun v c ⟨q, t, ta, a, b, d⟩ => ⟨q, t, ta, a, .tail _ b, d⟩).snoc ⟨_, _, _, rfl, .head _, s9⟩)
        (List.forall_mem_cons.mpr ⟨l19.2.1, hex⟩) rfl⟩
    · exfalso; omega
  · rintro m1 nw h8 tk8 ⟨M8, L8, H8, I8, hrs, hR, hex, q⟩ F8 N8
    rename_i ex ra nr rs W8 f8 e8 o8 of8 oh8
    have F7 := fr_over _ q F8
    clear F9 N9 R9 F8 q
    (try dsimp only); (try k_fold)
    k_steps
    rename Fr _ _ _ _ => F9
    rename News _ _ _ _ => N9
    have gar : g'.get? ar = none := (N9 _ (.head _)).2.2
    have hid : ∀ b ∈ ((wd, o) :: (fl, of) :: (ah, oh) :: im).map (·.1), b < ar := fun b hb => by
      obtain ⟨p, hp, rfl⟩ := List.mem_map.mp hb
      exact (List.forall_mem_cons.mpr ⟨r1, List.forall_mem_cons.mpr ⟨r2, List.forall_mem_cons.mpr ⟨r3, y4⟩⟩⟩ : ∀ p ∈ ((wd, o) :: (fl, of) :: (ah, oh) :: im), p.1 < ar) p hp
    have tl : ∀ p ∈ ex ++ im, p ∈ (ar, listOf ra nr) :: (wd, o8) :: (fl, of8) :: (ah, oh8) :: (ex ++ im) := fun p hp => .tail _ (.tail _ (.tail _ (.tail _ hp)))
    refine hQ _ _ (ret ar ra.toList nr rs ex W8 f8 e8 _ _ o8 of8 oh8 (same_end3 (o' := o8) (q' := of8) (r' := oh8) hg' F9 (fun p hp => N9 p ?_) N) (N9 (wd, o8) (.tail _ (.head _))).1 (N9 (fl, of8) (.tail _ (.tail _ (.head _)))).1 (N9 (ah, oh8) (.tail _ (.tail _ (.tail _ (.head _))))).1 M8 L8 H8 I8 (Nat.le_trans hrs (by omega)) (by rw [Array.toArray_toList]; exact (N9 _ (.head _)).1) r2 (made_none hg' hid (Nat.le_refl _) gar)
      (hR.mono fun v c => RecIn.end F9 (fun b hb => ?_) gar) (fun p hp => ⟨(N9 p (tl p (List.mem_append_left _ hp))).1, made_none hg' hid (Nat.le_of_lt (hex p hp)) (N9 p (tl p (List.mem_append_left _ hp))).2.2, hex p hp⟩))
    · exact .tail _ ((List.mem_cons.mp hp).elim (fun e => e ▸ .head _) fun hp => .tail _ ((List.mem_cons.mp hp).elim (fun e => e ▸ .head _) fun hp => .tail _ ((List.mem_cons.mp hp).elim (fun e => e ▸ .head _) fun hp => .tail _ (List.mem_append_right _ hp))))
    · rcases (List.mem_append (s := [ac, ah, dm, xm, wd, ak, dh, xh, fl]) (t := [ar])).mp hb with z | z
      · exact .inr z
      · exact .inl (List.mem_singleton.mp z)
end


example : True := by (w_top off); trivial
example : True := by
  (k_with "exec For Tuple Name cons nil" => (k_here; k_dflt (refine for_start ?_ (by intro _; rfl))))
  (k_with "newList" => (k_here; k_dflt (refine' newList_K ?k1 ?k2 ?_; (case k1 => k_asm); (case k2 => k_asm); k_whole); intro _ _ _ _ l1; revert l1; intro _; (try k_sweep)))
  (k_with "subscriptTail" => (k_here; (with_reducible show wpAny _ _ (subscriptTail _ _ (Value.ref _) (Value.int _ _)) _ _ _); k_dflt (refine' ints_read ?N ?m ?i ?a ?b ?c ?_; (case N => k_asm); (case m => k_mem); (case i => (repeat' (first | exact IntsAre.nil | refine IntsAre.cons _ _ ?_))); (case a => first | decide | assumption | omega); (case b => (simp only [List.length_cons, List.length_nil]; omega)); (case c => (simp only [List.length_cons, List.length_nil]; decide)); k_whole; intro _ _ _)))
  trivial
theorem menu4 {d : Int} (h0 : 0 ≤ d) (h1 : d < 4) : ([0, 64, 1020, 8000] : List Int).getD d.toNat 0 = 0 ∨ ([0, 64, 1020, 8000] : List Int).getD d.toNat 0 = 64 ∨ ([0, 64, 1020, 8000] : List Int).getD d.toNat 0 = 1020 ∨ ([0, 64, 1020, 8000] : List Int).getD d.toNat 0 = 8000 := by
  have : d = 0 ∨ d = 1 ∨ d = 2 ∨ d = 3 := by omega
  rcases this with rfl | rfl | rfl | rfl <;> simp
theorem menu_or {v : Int} {rs : List Rc} (h : v = 0 ∨ v = 64 ∨ v = 1020 ∨ v = 8000) : v = 0 ∨ v = 64 ∨ v = 1020 ∨ v = 8000 ∨ ∃ c' ∈ rs, v = c'.r := by
  rcases h with q | q | q | q <;> simp [q]
structure FillInv (rs : List Rc) (Inv : (Int → Int) → Prop) : Prop where
  bound : ∀ {W c}, Inv W → c ∈ rs → 0 ≤ c.r ∧ 0 ≤ c.k.wide ∧ c.r + c.k.wide ≤ 1504
  step : ∀ {W c i v}, Inv W → c ∈ rs → 0 ≤ i → 4 * i < c.k.wide → (v = 0 ∨ v = 64 ∨ v = 1020 ∨ v = 8000 ∨ ∃ c' ∈ rs, v = c'.r) → Inv (upd W ((c.r + 4 * i) / 4) (v % 4294967296))

inductive FillJ1 (w : World) (wd ah xh ar ac : Addr) (len : Nat) (Inv : (Int → Int) → Prop) (im : List (Addr × Obj)) (m1 : Str → Option Value) : List (Addr × Obj) → Prop
  | mk {o8 : Obj} {W8 : Int → Int} {oh8 : Obj} (hM : MemIs w o8 W8) (hH : HandOk oh8 ac len) (hI : Inv W8) (e : AllAt m1 [("hand", .ref ah), ("area", .ref xh), ("records", .ref ar)]) : FillJ1 w wd ah xh ar ac len Inv im m1 ((wd, o8) :: (ah, oh8) :: im)
inductive FillJ2 (w : World) (wd ah xh ar ac : Addr) (len : Nat) (Inv : (Int → Int) → Prop) (im : List (Addr × Obj)) (J : Addr × Obj) (r : Int) (m1 : Str → Option Value) : List (Addr × Obj) → Prop
  | mk {o8 : Obj} {W8 : Int → Int} {oh8 : Obj} {tw : Tok} (hM : MemIs w o8 W8) (hH : HandOk oh8 ac len) (hI : Inv W8) (e : AllAt m1 [("hand", .ref ah), ("area", .ref xh), ("records", .ref ar), ("where", .int r tw)]) : FillJ2 w wd ah xh ar ac len Inv im J r m1 (J :: (wd, o8) :: (ah, oh8) :: im)

/-- filled's ledger -/
inductive ImFill (h₀ h : Heap) (L xm dm wd xh dh ah ac ar : Addr) (a1 a2 a3 a4 a5 a6 a7 a8 : Obj) : Prop
  | mk (im : List (Addr × Obj)) (N : News h₀ L h ((wd, a3) :: (ah, a6) :: im)) (v1 : (xm, a1) ∈ im) (v2 : (dm, a2) ∈ im) (v4 : (xh, a4) ∈ im) (v5 : (dh, a5) ∈ im) (v6 : (ac, a7) ∈ im) (v7 : (ar, a8) ∈ im)
      (x1 : ∀ p ∈ im, p.1 ≠ wd) (x2 : ∀ p ∈ im, p.1 ≠ ah) (hmap : im.map (·.1) = [xm, dm, xh, dh, ac, ar])
      (d1 : dm < wd) (d2 : ah < wd) (d3 : wd < xh) : ImFill h₀ h L xm dm wd xh dh ah ac ar a1 a2 a3 a4 a5 a6 a7 a8
theorem im_fill {h₀ h : Heap} {L : Addr} {news : List (Addr × Obj)} {xm dm wd xh dh ah ac ar : Addr} {a1 a2 a3 a4 a5 a6 a7 a8 : Obj} (N : News h₀ L h news) (i1 : (xm, a1) ∈ news) (i2 : (dm, a2) ∈ news) (i3 : (wd, a3) ∈ news) (i4 : (xh, a4) ∈ news) (i5 : (dh, a5) ∈ news) (j1 : (ah, a6) ∈ news) (j2 : (ac, a7) ∈ news) (j3 : (ar, a8) ∈ news)
    (l1 : ac < ah) (l2 : ah < dm) (l3 : dm < xm) (l4 : xm < wd) (l5 : wd < dh) (l7 : dh < xh) (l8 : xh < ar) : ImFill h₀ h L xm dm wd xh dh ah ac ar a1 a2 a3 a4 a5 a6 a7 a8 := by
  have d1 := Nat.lt_trans l3 l4; have d2 := Nat.lt_trans l2 d1; have d3 := Nat.lt_trans l5 l7; have c1 := Nat.lt_trans l1 d2; have c2 := Nat.lt_trans d3 l8; have c3 := Nat.lt_trans l2 l3; have c4 := Nat.lt_trans d2 d3; have c5 := Nat.lt_trans d2 l5; have c6 := Nat.lt_trans c4 l8
  refine ⟨[(xm, a1), (dm, a2), (xh, a4), (dh, a5), (ac, a7), (ar, a8)], fun p hp => ?_, by simp, by simp, by simp, by simp, by simp, by simp, ?_, ?_, rfl, d1, d2, d3⟩
  · simp only [List.mem_cons, List.not_mem_nil, or_false] at hp
    rcases hp with rfl | rfl | rfl | rfl | rfl | rfl | rfl | rfl <;> (refine N _ ?_ <;> assumption)
  · simp only [List.forall_mem_cons, List.not_mem_nil, false_implies, implies_true, and_true]
    exact ⟨neLt l4, neLt d1, neGt d3, neGt l5, neLt c1, neGt c2⟩
  · simp only [List.forall_mem_cons, List.not_mem_nil, false_implies, implies_true, and_true]
    exact ⟨neGt c3, neGt l2, neGt c4, neGt c5, neLt l1, neGt c6⟩
section
variable {w : World} {mean : ExcName → Option Value} {mg mb : Str → Option Value} {dp un : Nat} {gd : Option (List Code)} {cn : Str} {cs : Scope} {a : Addr} {ccd : Value} {cl : List (Str × Addr)} {outer : List Env} {A₀ : Around} {base h₀ : Heap} {L : Addr} {m : Str → Option Value} {s : Shared}
  {news : List (Addr × Obj)} {xm dm wd xh dh fl : Addr} {z1 z2 z3 z4 z5 z6 : Int} {k1 k2 t1 k3 k4 t4 k5 t5 k6 : Tok} {n n' : Nat} {o : Obj} {W : Int → Int}
  {ah ac ak ar : Addr} {oh : Obj} {cv rvs : List Value} {cns : List Int} {nc nr : Nat} {rs : List Rc}
set_option maxHeartbeats 8000000 in
theorem filled_ok {Inv : (Int → Int) → Prop} {Q E : Value → Shared → Prop}
    (B : Below A₀ base outer h₀) (F : Fr h₀ L s.heap m) (X : (hd.heap_39 w.params).In h₀) (T : TopH mean mg mb h₀) (hk : cs.kind = .function) (hd : dp + 20 < recursionLimit) (hu : un + 200 < cLine)
    (N : News h₀ L s.heap news) (i1 : (xm, memObj dm) ∈ news) (i2 : (dm, memDict z1 k1 t1 z2 k2 wd n) ∈ news) (i3 : (wd, o) ∈ news)
    (i4 : (xh, heapObj dh) ∈ news) (i5 : (dh, heapDict z3 k3 xm z4 k4 t4 z5 k5 t5 z6 k6 fl n') ∈ news) (hlo : (wd == sysModules) = false) (hM : MemIs w o W)
    (j1 : (ah, oh) ∈ news) (j2 : (ac, listOf cv.toArray nc) ∈ news) (hi : IntsAre cv cns) (hH : HandOk oh ac cns.length) (hln : cns.length ≤ 63)
    (j3 : (ar, listOf rvs.toArray nr) ∈ news) (hR : Rel2 (RecV [ac, ah, dm, xm, wd, ak, dh, xh, fl, ar] s.heap) rvs rs) (hrn : rs.length ≤ 12)
    (l1 : ac < ah) (l2 : ah < dm) (l3 : dm < xm) (l4 : xm < wd) (l5 : wd < dh) (l7 : dh < xh) (l8 : xh < ar)
    (I : FillInv rs Inv) (hI : Inv W)
    (ret : ∀ W' h' tk' o' oh', Same [wd, ah] s.heap h' → h'.get? wd = some o' → h'.get? ah = some oh' → MemIs w o' W' → HandOk oh' ac cns.length → Inv W' → Q .none { s with heap := h', toks := tk' }) :
    wpAny (model pw w) (ktrTop dp un gd cn cs L a ccd cl outer) (call (.ref 268) [.ref ah, .ref xh, .ref ar]) Q E s := by
  obtain ⟨im, N, v1, v2, v4, v5, v6, v7, x1, x2, hmap, d1, d2, d3⟩ := im_fill N i1 i2 i3 i4 i5 j1 j2 j3 l1 l2 l3 l4 l5 l7 l8
  clear i1 i2 i3 i4 i5 j1 j2 j3
  have hrl := hR.1
  k_dflt walk_at "NU enter"
  intro g' L' h' Qb hg' hL' hQ hQn F' N' B' X' T'
  have hRg : Rel2 (RecV [ac, ah, dm, xm, wd, ak, dh, xh, fl, ar] g') rvs rs := hR.mono fun v x q => q.stays fun b o n e => hg' b o (fun z => n (by
    simp only [List.map_cons, hmap, List.mem_cons, List.not_mem_nil, or_false] at z ⊢
    rcases z with rfl | rfl | rfl | rfl | rfl | rfl | rfl | rfl <;> simp)) e
  (try dsimp only); (try k_lift B'); (try k_fold)
  k_steps
  rename Fr _ _ _ _ => F9
  rename News _ _ _ _ => N9
  refine hold_out ?_
  refine for_list (fun _ => FillJ1 w wd ah xh ar ac cns.length Inv im) (by rfl) (by first | exact PassesOwn.never | passes_own | with_unfolding_all passes_own) F9 N9 (.tail _ (.tail _ v7)) ⟨hM, hH, hI, rfl⟩ ?_ ?_ ?_
  · rintro i m' nw ⟨_⟩
    exact .tail _ (.tail _ v7)
  · rintro J9 i v m1 nw h8 tk8 oI Wb hv ⟨M8, H8, I8, e⟩ hoff hlt F8 N8 hJ
    obtain ⟨c, hc, ra, rfl, hr⟩ := hRg.get hv
    have hcm := List.mem_of_getElem? hc
    obtain ⟨y1, y2, y3⟩ := I.bound I8 hcm
    have F7 := fr_over _ e F8
    clear F9 N9 F8 e
    k_steps
    rename Fr _ _ _ _ => F9
    rename News _ _ _ _ => N9
    rename IsRange _ _ _ _ _ _ _ _ => R9
    refine hold_out ?_
    refine for_range (n := ((c.k.wide + 3) / 4).toNat) (fun _ => FillJ2 w wd ah xh ar ac cns.length Inv im (J9, oI) c.r) (by rfl) (by first | exact PassesOwn.never | passes_own | with_unfolding_all passes_own)
      R9 (small4 (by decide) (by decide) y2 (by omega)) (by unfold Builtin.Range.rangeSize; simp only [Int.reduceGT, if_true]; split <;> omega) F9 N9 ⟨M8, H8, I8, rfl⟩ ?_ ?_
    · rintro J8 j tj m1 nw h8 tk8 oJ Vb hj ⟨M8, H8, I8, e⟩ hoff2 hlt2 F8 N8 hJ2
      have F7 := fr_over _ e F8
      clear F9 N9 R9 F8 e
      have hrp : 0 < rs.length := List.length_pos_of_mem hcm
      have e9 : c.r + (0 + (j : Int) * 4) = c.r + 4 * j := by omega
      have hj4 : 4 * (j : Int) < c.k.wide := by omega
      k_steps
      · rename Fr _ _ _ _ => F9
        rename News _ _ _ _ => N9
        rename MemIs _ _ (upd _ _ _) => M9
        rename HandOk _ _ _ => H9
        rename (rs[_]? = some _) => hx
        rw [e9] at M9
        exact hJ2 _ ⟨F9, fun p hp => N9 p (.tail _ hp), hoff2, M9, H9, I.step I8 hcm (Int.natCast_nonneg j) hj4 (.inr (.inr (.inr (.inr ⟨_, List.mem_of_getElem? hx, rfl⟩)))), rfl⟩
      · rename Fr _ _ _ _ => F9
        rename News _ _ _ _ => N9
        rename MemIs _ _ (upd _ _ _) => M9
        rw [e9] at M9
        rename_i d9 t91 h91 tk91 o91 p91 q91 H91 t92 h92 tk92 d92 t93 h93 tk93 o93 p93 q93 H93 nlt h94 tk94 o94
        exact hJ2 _ ⟨F9, fun p hp => N9 p (.tail _ hp), hoff2, M9, H93, I.step I8 hcm (Int.natCast_nonneg j) hj4 (menu_or (menu4 p91 q91)), rfl⟩
    · rintro m1 nw h8 tk8 ⟨M8, H8, I8, e⟩ F8 N8
      clear F9 N9 R9
      (try dsimp only)
      k_steps
      rename Fr _ _ _ _ => F9
      rename News _ _ _ _ => N9
      exact hJ _ ⟨F9, N9, hoff, M8, H8, I8, e.take 3⟩
  · rintro m1 nw h8 tk8 ⟨M8, H8, I8, e⟩ F8 N8
    clear F9 N9
    (try dsimp only); (try k_fold)
    k_steps
    rename Fr _ _ _ _ => F9
    rename News _ _ _ _ => N9
    exact hQn _ (ret _ _ _ _ _ (same_end2 hg' F9 N9 N) (N9 _ (.head _)).1 (N9 _ (.tail _ (.head _))).1 M8 H8 I8)
end


example : True := by (w_top off); trivial
section
variable {prog : Program} {w : World} {A : Around} {E : Value → Shared → Prop} {s : Shared} {h₀ : Heap} {L l b : Addr} {news : List (Addr × Obj)}
theorem ne_nil_led {vs : List Value} {n n2 : Nat} {Q : Value → Shared → Prop} (N : News h₀ L s.heap news) (hm : (l, listOf vs.toArray n) ∈ news) (hb : (b, listOf (List.toArray []) n2) ∈ news) (hu : A.units < cLine) (h : Q (.bool (decide (0 < vs.length))) s) :
    wpAny (model prog w) A (compareOp .NotEq (.ref l) (.ref b)) Q E s := by
  have i1 : s.heap.IsList l vs.toArray := ⟨_, (N _ hm).1, rfl, _, rfl⟩
  have i2 : s.heap.IsList b (List.toArray []) := ⟨_, (N _ hb).1, rfl, _, rfl⟩
  cases vs with
  | nil => exact PySem.SeqAt.RcNeAt.lists (e := fun _ => true) i1 i2 rfl hu (fun j h1 _ => absurd h1 (Nat.not_lt_zero _)) prog w E Q (by simpa using h)
  | cons v r => exact PySem.SeqAt.RcNeAt.lists_lengths i1 i2 (by simp) hu prog w E Q (by simpa using h)
end
theorem ints_snoc {vs : List Value} {ns : List Int} {x : Int} {t : Tok} (h : IntsAre vs ns) : IntsAre (vs ++ [.int x t]) (ns ++ [x]) := by
  induction h with
  | nil => exact .cons _ _ .nil
  | cons n t _ ih => exact .cons _ _ ih
theorem ints_push {ra : Array Value} {ns : List Int} {x : Int} {t : Tok} (h : IntsAre ra.toList ns) : IntsAre (ra.push (.int x t)).toList (ns ++ [x]) := by
  rw [Array.toList_push]; exact ints_snoc h
example : True := by
  (k_with "compareOp NotEq ref ref" => (k_here; k_dflt (refine' ne_nil_led ?N ?m ?b ?u ?_; (case N => k_asm); (case m => k_mem); (case b => k_mem); (case u => ktr_units); k_whole)))
  trivial
/-- roots' ledger -/
inductive ImRoots (h₀ h : Heap) (L xh dh ah ac ar : Addr) (a4 a5 a6 a7 a8 : Obj) : Prop
  | mk (im : List (Addr × Obj)) (N : News h₀ L h ((ah, a6) :: im)) (v4 : (xh, a4) ∈ im) (v5 : (dh, a5) ∈ im) (v6 : (ac, a7) ∈ im) (v7 : (ar, a8) ∈ im)
      (x2 : ∀ p ∈ im, p.1 ≠ ah) (hmap : im.map (·.1) = [xh, dh, ac, ar]) : ImRoots h₀ h L xh dh ah ac ar a4 a5 a6 a7 a8
theorem im_roots {h₀ h : Heap} {L : Addr} {news : List (Addr × Obj)} {xh dh ah ac ar : Addr} {a4 a5 a6 a7 a8 : Obj} (N : News h₀ L h news) (i4 : (xh, a4) ∈ news) (i5 : (dh, a5) ∈ news) (j1 : (ah, a6) ∈ news) (j2 : (ac, a7) ∈ news) (j3 : (ar, a8) ∈ news)
    (l1 : ac < ah) (l2 : ah < dh) (l7 : dh < xh) (l8 : xh < ar) : ImRoots h₀ h L xh dh ah ac ar a4 a5 a6 a7 a8 := by
  have d1 := Nat.lt_trans l2 l7; have d2 := Nat.lt_trans d1 l8
  refine ⟨[(xh, a4), (dh, a5), (ac, a7), (ar, a8)], fun p hp => ?_, by simp, by simp, by simp, by simp, ?_, rfl⟩
  · simp only [List.mem_cons, List.not_mem_nil, or_false] at hp
    rcases hp with rfl | rfl | rfl | rfl | rfl <;> (refine N _ ?_ <;> assumption)
  · simp only [List.forall_mem_cons, List.not_mem_nil, false_implies, implies_true, and_true]
    exact ⟨neGt d1, neGt l2, neLt l1, neGt d2⟩
/-- the for's word in roots -/
inductive RootsJ (xh ah ac ar ro : Addr) (len : Nat) (im : List (Addr × Obj)) (i : Nat) (m1 : Str → Option Value) : List (Addr × Obj) → Prop
  | mk {ra : Array Value} {nn : Nat} {rns : List Int} {oh8 : Obj} (H8 : HandOk oh8 ac len) (hra : IntsAre ra.toList rns) (hrns : rns.length = i) (q : AllAt m1 [("hand", .ref ah), ("area", .ref xh), ("records", .ref ar), ("roots", .ref ro)]) :
      RootsJ xh ah ac ar ro len im i m1 ((ro, listOf ra nn) :: (ah, oh8) :: im)

section
variable {w : World} {mean : ExcName → Option Value} {mg mb : Str → Option Value} {dp un : Nat} {gd : Option (List Code)} {cn : Str} {cs : Scope} {a : Addr} {ccd : Value} {cl : List (Str × Addr)} {outer : List Env} {A₀ : Around} {base h₀ : Heap} {L : Addr} {m : Str → Option Value} {s : Shared}
  {news : List (Addr × Obj)} {xm dm wd xh dh fl : Addr} {z1 z2 z3 z4 z5 z6 : Int} {k1 k2 t1 k3 k4 t4 k5 t5 k6 : Tok} {n n' : Nat} {o : Obj} {W : Int → Int}
  {ah ac ak ar : Addr} {oh : Obj} {cv rvs : List Value} {cns : List Int} {nc nr : Nat} {rs : List Rc}
set_option maxHeartbeats 8000000 in
theorem roots_ok {Q E : Value → Shared → Prop}
    (B : Below A₀ base outer h₀) (F : Fr h₀ L s.heap m) (X : (hd.heap_39 w.params).In h₀) (T : TopH mean mg mb h₀) (hk : cs.kind = .function) (hd : dp + 20 < recursionLimit) (hu : un + 200 < cLine)
    (N : News h₀ L s.heap news)
    (i4 : (xh, heapObj dh) ∈ news) (i5 : (dh, heapDict z3 k3 xm z4 k4 t4 z5 k5 t5 z6 k6 fl n') ∈ news)
    (j1 : (ah, oh) ∈ news) (j2 : (ac, listOf cv.toArray nc) ∈ news) (hi : IntsAre cv cns) (hH : HandOk oh ac cns.length) (hln : cns.length ≤ 63)
    (j3 : (ar, listOf rvs.toArray nr) ∈ news) (hR : Rel2 (RecV [ac, ah, dm, xm, wd, ak, dh, xh, fl, ar] s.heap) rvs rs) (hrn : rs.length ≤ 12)
    (l1 : ac < ah) (l2 : ah < dh) (l7 : dh < xh) (l8 : xh < ar) (hw : ∀ c ∈ rs, 0 ≤ c.k.wide ∧ c.k.wide < 900)
    (ret : ∀ ro ovs ons no h' tk' oh', Same [ah] s.heap h' → h'.get? ah = some oh' → HandOk oh' ac cns.length → h'.get? ro = some (listOf (List.toArray ovs) no) → IntsAre ovs ons → ons.length ≤ 5 → ar < ro → s.heap.get? ro = none → Q (.ref ro) { s with heap := h', toks := tk' }) :
    wpAny (model pw w) (ktrTop dp un gd cn cs L a ccd cl outer) (call (.ref 275) [.ref ah, .ref xh, .ref ar]) Q E s := by
  obtain ⟨im, N, v4, v5, v6, v7, x2, hmap⟩ := im_roots N i4 i5 j1 j2 j3 l1 l2 l7 l8
  clear i4 i5 j1 j2 j3
  have hrl := hR.1
  k_dflt walk_at "NU enter"
  intro g' L' h' Qb hg' hL' hQ hQn F' N' B' X' T'
  have hRg : Rel2 (RecV [ac, ah, dm, xm, wd, ak, dh, xh, fl, ar] g') rvs rs := hR.mono fun v x q => q.stays fun b o n e => hg' b o (fun z => n (by
    simp only [List.map_cons, hmap, List.mem_cons, List.not_mem_nil, or_false] at z ⊢
    rcases z with rfl | rfl | rfl | rfl | rfl <;> simp)) e
  (try dsimp only); (try k_lift B'); (try k_fold)
  k_steps
  rename_i ro hx1 l9 hx2 d9 t9 h9 tk9 o9 p9 q9 H9 h9x tk9x t9x u9x v9x R9 F9 N9 K9
  clear K9
  have r1 : ah < ro := l9 _ (.head _)
  refine hold_out ?_
  refine for_range (n := d9.toNat) (RootsJ xh ah ac ar ro cns.length im) (by rfl) (by first | exact PassesOwn.never | passes_own | with_unfolding_all passes_own)
    R9 (small_one (by omega) (by omega) (by omega) (by omega)) (by unfold Builtin.Range.rangeSize; simp only [Int.reduceGT, if_true]; split <;> omega) F9 N9
    (RootsJ.mk (ra := #[]) H9 IntsAre.nil rfl rfl) ?_ ?_
  · rintro J9 i ti m1 nw h8 tk8 oI Wb hi9 ⟨H8, hra, hrns, q⟩ hoff hlt F8 N8 hJ
    have F7 := fr_over _ q F8
    have r2 : ro < J9 := hlt (ro, _) (.head _)
    have r3 : ah < J9 := Nat.lt_trans r1 r2
    clear F9 N9 R9 H9 F8 q hlt
    rename_i ra nn rns oh8
    have y4 : ∀ p ∈ im, p.1 ≠ ro := fun p hp => neLt (l9 p (.tail _ hp))
    have hras : ra.size = i := by rw [← hrns, ← hra.length, Array.length_toList]
    clear l9
    k_steps
    · rename (rs[_]? = some _) => hx
      have hww := hw _ (List.mem_of_getElem? hx)
      refine hold_out ?_
      k_steps
      rename Fr _ _ _ _ => F9
      rename News _ _ _ _ => N9
      rename HandOk _ _ _ => H9
      exact hJ _ ⟨F9, fun p hp => N9 p (.tail _ (.tail _ hp)), hoff, H9, ints_push hra, by rw [List.length_append, hrns]; rfl, rfl⟩
    · rename Fr _ _ _ _ => F9
      rename News _ _ _ _ => N9
      rename HandOk _ _ _ => H9
      exact hJ _ ⟨F9, fun p hp => N9 p (.tail _ (.tail _ hp)), hoff, H9, ints_push hra, by rw [List.length_append, hrns]; rfl, rfl⟩
    · rename Fr _ _ _ _ => F9
      rename News _ _ _ _ => N9
      rename HandOk _ _ _ => H9
      exact hJ _ ⟨F9, fun p hp => N9 p (.tail _ (.tail _ hp)), hoff, H9, ints_push hra, by rw [List.length_append, hrns]; rfl, rfl⟩
  · rintro m1 nw h8 tk8 ⟨H8, hra, hrns, q⟩ F8 N8
    rename_i ra nn rns oh8
    have F7 := fr_over _ q F8
    clear F9 N9 R9 F8 q
    (try dsimp only); (try k_fold)
    k_steps
    rename Fr _ _ _ _ => F9
    rename News _ _ _ _ => N9
    have hid : ∀ b ∈ ((ah, oh) :: im).map (·.1), b < ro := fun b hb => by
      obtain ⟨p, hp, rfl⟩ := List.mem_map.mp hb
      exact (List.forall_mem_cons.mpr ⟨r1, fun p hp => l9 p (.tail _ hp)⟩ : ∀ p ∈ ((ah, oh) :: im), p.1 < ro) p hp
    exact hQ _ _ (ret ro ra.toList rns nn _ _ oh8 (same_end1 (o' := oh8) hg' F9 (fun p hp => N9 p (.tail _ hp)) N) (N9 (ah, oh8) (.tail _ (.head _))).1 H8 (by rw [Array.toArray_toList]; exact (N9 _ (.head _)).1) hra (by omega) (l9 _ (.tail _ v7)) (made_none hg' hid (Nat.le_refl _) (N9 _ (.head _)).2.2))
end


example : True := by (w_top off); trivial
section
variable {prog : Program} {w : World} {A : Around} {s : Shared} {h₀ : Heap} {L : Addr} {m : Str → Option Value} {env : Env} {news : List (Addr × Obj)}
theorem comp_ind {elt : PySem.Expr} {x : Str} {scope : Scope} {cl : List (Str × Addr)} {S : List (Addr × Obj) → Prop} {P : Nat → Value → Prop} {Fin : List Value → List (Addr × Obj) → Prop} {n : Nat} (R : Nat → List Value → List (Addr × Obj) → Prop)
    (turn : ∀ i ys news v I oI C oC D m₂ h tk (E' : Value → Shared → Prop), i < n → R i ys news → P i v → LCg.NsObj oC m₂ → m₂ x = some v → Fr h₀ L h m → News h₀ L h ((I, oI) :: (C, oC) :: (D, LCg.lst ys) :: news) → LCg.Off3 I C D news → ((@Ne Nat I C) ∧ (@Ne Nat I D) ∧ (@Ne Nat C D)) →
      ∀ Cb : Value → Shared → Prop, (∀ y s', LCg.CompEnd h₀ L m { s with heap := h, toks := tk } I oI C oC D (LCg.lst ys) S (fun y news' => R (i + 1) (ys ++ [y]) news') y s' → Cb y s') →
      wpAny (model prog w) A (eval elt (compEnvC scope cl C env)) Cb E' { s with heap := h, toks := tk })
    (fin : ∀ ys news, R n ys news → Fin ys news) : ∀ k i ys news, i + k = n → R i ys news → LCg.CompRest prog w A h₀ L m env elt x scope cl s S P Fin k i ys news := by
  intro k
  induction k with
  | zero => intro i ys news e r; have : i = n := by omega
            subst this; exact LCg.CompRest.zero (fin ys news r)
  | succ k ih =>
    intro i ys news e r
    refine LCg.CompRest.succ fun v I oI C oC D m₂ h tk E' hv hC hx F N off ne => ?_
    refine wpAny_mono (turn i ys news v I oI C oC D m₂ h tk E' (by omega) r hv hC hx F N off ne _ (fun _ _ q => q)) (fun y s₂ h₂ => ?_) fun _ _ e => e
    obtain ⟨h', tk', news', e1, F', N', off', hS, r'⟩ := h₂
    exact ⟨h', tk', news', e1, F', N', off', hS, ih (i + 1) _ news' (by omega) r'⟩

theorem compT_ind {ct elt : PySem.Expr} {x : Str} {scope : Scope} {cl : List (Str × Addr)} {S : List (Addr × Obj) → Prop} {P : Nat → Value → Prop} {Fin : List Value → List (Addr × Obj) → Prop} {n : Nat} (R : Nat → List Value → List (Addr × Obj) → Prop)
    (turn : ∀ i ys news v I oI C oC D m₂ h tk (E' : Value → Shared → Prop), i < n → R i ys news → P i v → LCg.NsObj oC m₂ → m₂ x = some v → Fr h₀ L h m → News h₀ L h ((I, oI) :: (C, oC) :: (D, LCg.lst ys) :: news) → LCg.Off3 I C D news → ((@Ne Nat I C) ∧ (@Ne Nat I D) ∧ (@Ne Nat C D)) →
      ∀ (Cb : Value → Shared → Prop) (Cn : Shared → Prop), (∀ y s', LCg.CompEnd h₀ L m { s with heap := h, toks := tk } I oI C oC D (LCg.lst ys) S (fun y news' => R (i + 1) (ys ++ [y]) news') y s' → Cb y s') →
      (∀ s', LCg.CompEnd h₀ L m { s with heap := h, toks := tk } I oI C oC D (LCg.lst ys) S (fun _ news' => R (i + 1) ys news') Value.none s' → Cn s') →
      wpAny (model prog w) A (isTrue ct (compEnvC scope cl C env) (eval ct (compEnvC scope cl C env))) (fun ok s' => if ok = true then wpAny (model prog w) A (eval elt (compEnvC scope cl C env)) Cb E' s' else Cn s') E' { s with heap := h, toks := tk })
    (fin : ∀ ys news, R n ys news → Fin ys news) : ∀ k i ys news, i + k = n → R i ys news → LCt.CompRestT prog w A h₀ L m env ct elt x scope cl s S P Fin k i ys news := by
  intro k
  induction k with
  | zero => intro i ys news e r; have : i = n := by omega
            subst this; exact LCt.CompRestT.zero (fin ys news r)
  | succ k ih =>
    intro i ys news e r
    refine LCt.CompRestT.succ fun v I oI C oC D m₂ h tk E' hv hC hx F N off ne => ?_
    refine wpAny_mono (turn i ys news v I oI C oC D m₂ h tk E' (by omega) r hv hC hx F N off ne _ _ (fun _ _ q => q) (fun _ q => q)) (fun ok s' h₁ => ?_) fun _ _ e => e
    cases ok with
    | true =>
      rw [if_pos rfl] at h₁
      rw [if_pos rfl]
      refine wpAny_mono h₁ (fun y s₂ h₂ => ?_) fun _ _ e => e
      obtain ⟨h', tk', news', e1, F', N', off', hS, r'⟩ := h₂
      exact ⟨h', tk', news', e1, F', N', off', hS, ih (i + 1) _ news' (by omega) r'⟩
    | false =>
      rw [if_neg Bool.false_ne_true] at h₁
      rw [if_neg Bool.false_ne_true]
      obtain ⟨h', tk', news', e1, F', N', off', hS, r'⟩ := h₁
      exact ⟨h', tk', news', e1, F', N', off', hS, ih (i + 1) _ news' (by omega) r'⟩

theorem compP_ind {elt : PySem.Expr} {x x₂ : Str} {scope : Scope} {cl : List (Str × Addr)} {S : List (Addr × Obj) → Prop} {P : Nat → Value → Prop} {Fin : List Value → List (Addr × Obj) → Prop} {n : Nat} (R : Nat → List Value → List (Addr × Obj) → Prop)
    (turn : ∀ i ys news v, i < n → R i ys news → P i v → ∃ (t : Addr) (ot : Obj) (v₁ v₂ : Value) (nt : Nat), v = .ref t ∧ (t, ot) ∈ news ∧ ot.cls = .type "tuple" ∧ ot.data = .seq #[v₁, v₂] nt ∧
      ∀ I oI C oC D m₂ h tk (E' : Value → Shared → Prop), LCg.NsObj oC m₂ → m₂ x = some v₁ → m₂ x₂ = some v₂ → Fr h₀ L h m → News h₀ L h ((I, oI) :: (C, oC) :: (D, LCg.lst ys) :: news) → LCg.Off3 I C D news → ((@Ne Nat I C) ∧ (@Ne Nat I D) ∧ (@Ne Nat C D)) →
      ∀ Cb : Value → Shared → Prop, (∀ y s', LCg.CompEnd h₀ L m { s with heap := h, toks := tk } I oI C oC D (LCg.lst ys) S (fun y news' => R (i + 1) (ys ++ [y]) news') y s' → Cb y s') →
      wpAny (model prog w) A (eval elt (compEnvC scope cl C env)) Cb E' { s with heap := h, toks := tk })
    (fin : ∀ ys news, R n ys news → Fin ys news) : ∀ k i ys news, i + k = n → R i ys news → LCp.CompRestP prog w A h₀ L m env elt x x₂ scope cl s S P Fin k i ys news := by
  intro k
  induction k with
  | zero => intro i ys news e r; have : i = n := by omega
            subst this; exact LCp.CompRestP.zero (fin ys news r)
  | succ k ih =>
    intro i ys news e r
    refine LCp.CompRestP.succ fun v hv => ?_
    obtain ⟨t, ot, v₁, v₂, nt, e1, e2, e3, e4, go⟩ := turn i ys news v (by omega) r hv
    refine ⟨t, ot, v₁, v₂, nt, e1, e2, e3, e4, fun I oI C oC D m₂ h tk E' hC hx hx2 F N off ne => ?_⟩
    refine wpAny_mono (go I oI C oC D m₂ h tk E' hC hx hx2 F N off ne _ (fun _ _ q => q)) (fun y s₂ h₂ => ?_) fun _ _ e => e
    obtain ⟨h', tk', news', e1, F', N', off', hS, r'⟩ := h₂
    exact ⟨h', tk', news', e1, F', N', off', hS, ih (i + 1) _ news' (by omega) r'⟩
end


example : True := by (w_top off); trivial
section
variable {prog : Program} {w : World} {A : Around} {E : Value → Shared → Prop} {s : Shared} {h₀ : Heap} {L l b : Addr} {m : Str → Option Value} {news : List (Addr × Obj)}
theorem kf_ints_of {vs : List Value} {ns : List Int} (h : IntsAre vs ns) : kf_ints vs = true := by
  induction h with
  | nil => rfl
  | cons n t _ ih => exact ih
theorem any_ints {vs : List Value} {ns : List Int} (h : IntsAre vs ns) (x : Int) : vs.any (isInt x) = decide (x ∈ ns) := by
  induction h with
  | nil => simp
  | cons n t _ ih =>
    rw [List.any_cons, ih]
    have e : isInt x (.int n t) = decide (n = x) := by simp only [isInt]; rfl
    rw [e, Bool.eq_iff_iff]
    simp only [Bool.or_eq_true, decide_eq_true_eq, List.mem_cons]
    constructor
    · rintro (h | h)
      · exact .inl h.symm
      · exact .inr h
    · rintro (h | h)
      · exact .inl h.symm
      · exact .inr h
theorem in_led {a : Array Value} {ns : List Int} {n : Nat} {x : Int} {t : Tok} {Q : Value → Shared → Prop} (N : News h₀ L s.heap news) (hm : (l, listOf a n) ∈ news) (hi : IntsAre a.toList ns) (h : Q (.bool (decide (x ∈ ns))) s) :
    wpAny (model prog w) A (compareOp .In (.int x t) (.ref l)) Q E s := kf_in N hm (kf_ints_of hi) (any_ints hi x) h
theorem notin_led {a : Array Value} {ns : List Int} {n : Nat} {x : Int} {t : Tok} {Q : Value → Shared → Prop} (N : News h₀ L s.heap news) (hm : (l, listOf a n) ∈ news) (hi : IntsAre a.toList ns) (h : Q (.bool (decide (¬ x ∈ ns))) s) :
    wpAny (model prog w) A (compareOp .NotIn (.int x t) (.ref l)) Q E s := kf_notin N hm (kf_ints_of hi) (by rw [any_ints hi x]; simp) h
theorem ints_readA {value slice : PySem.Expr} {a : Array Value} {ns : List Int} {nl : Nat} {k : Int} {u : Tok} {Q : Value → Shared → Prop}
    (N : News h₀ L s.heap news) (hm : (l, listOf a nl) ∈ news) (hi : IntsAre a.toList ns) (h0 : 0 ≤ k) (h1 : k < (ns.length : Int)) (h2 : ns.length < 2 ^ 62) (h : ∀ x t, ns[k.toNat]? = some x → Q (.int x t) s)
    (hs : subscripted slice false (.ref l) (.int k u) = operate [.ref l, .int k u] (getItem (.ref l) (.int k u)) := by with_unfolding_all rfl) :
    wpAny (model prog w) A (subscriptTail value slice (.ref l) (.int k u)) Q E s :=
  ints_read (vs := a.toList) N (by rw [Array.toArray_toList]; exact hm) hi h0 (by rw [hi.length]; exact h1) (by rw [hi.length]; exact h2) h hs
end
example : True := by
  (k_with "compareOp In int ref" => (k_here; k_dflt (first | (refine' in_led ?N ?m ?i ?_; (case N => k_asm); (case m => k_mem); (case i => assumption); k_whole) | (refine' in_led ?N ?m ?i ?_; (case N => k_asm); (case m => k_mem); (case i => (simp only [List.toList_toArray]; assumption)); k_whole))))
  (k_with "compareOp NotIn int ref" => (k_here; k_dflt (first | (refine' notin_led ?N ?m ?i ?_; (case N => k_asm); (case m => k_mem); (case i => assumption); k_whole) | (refine' notin_led ?N ?m ?i ?_; (case N => k_asm); (case m => k_mem); (case i => (simp only [List.toList_toArray]; assumption)); k_whole))))
  (k_with "subscriptTail" => (k_here; (with_reducible show wpAny _ _ (subscriptTail _ _ (Value.ref _) (Value.int _ _)) _ _ _); k_dflt (refine' ints_readA ?N ?m ?i ?a ?b ?c ?_; (case N => k_asm); (case m => k_mem); (case i => assumption); (case a => first | decide | assumption | omega); (case b => omega); (case c => omega); k_whole; intro _ _ _)))
  (k_with "eval ListComp" => (k_here; k_dflt (refine LCg.ListComp_U (F₀ := by k_asm) (by rfl) (by decide) (by rfl) (by decide) (by rfl) ?_)))
  (k_with "exec For Tuple Subscript cons nil" => (k_here; k_dflt (refine for_start ?_ (by intro _; rfl))))
  (k_with "exec For Name Subscript cons nil" => (k_here; k_dflt (refine for_start ?_ (by intro _; rfl))))
  (k_with "CompEnd" => (refine hold ?_))
  (k_with "CompSrc" => (refine hold ?_))
  trivial
section
variable {w : World} {mean : ExcName → Option Value} {mg mb : Str → Option Value} {dp un : Nat} {gd : Option (List Code)} {cn : Str} {cs : Scope} {a : Addr} {ccd : Value} {cl : List (Str × Addr)} {outer : List Env} {A₀ : Around} {base h₀ : Heap} {L : Addr} {m : Str → Option Value} {s : Shared}
set_option maxHeartbeats 8000000 in
theorem law_block_ok {x : Int} {t : Tok} {Q E : Value → Shared → Prop}
    (B : Below A₀ base outer h₀) (F : Fr h₀ L s.heap m) (X : (hd.heap_39 w.params).In h₀) (T : TopH mean mg mb h₀) (hk : cs.kind = .function) (hd : dp + 4 < recursionLimit) (hu : un + 40 < cLine)
    (h0 : 0 ≤ x) (h1 : x < 4096)
    (ret : ∀ t h' tk', Same [] s.heap h' → Q (.int (bsz x) t) { s with heap := h', toks := tk' }) :
    wpAny (model pw w) (ktrTop dp un gd cn cs L a ccd cl outer) (call (.ref 254) [.int x t]) Q E s := by
  have N : News h₀ L s.heap [] := fun p hp => nomatch hp
  k_dflt walk_at "NU enter"
  intro g' L' h' Qb hg' hL' hQ hQn F' N' B' X' T'
  (try dsimp only); (try k_lift B'); (try k_fold)
  k_steps
  all_goals (rename Fr _ _ _ _ => F9; rename News _ _ _ _ => N9)
  all_goals (refine hQ _ _ (retI ?_ (ret _ _ _ (same_end0 hg' F9 N9 N))); unfold bsz; simp only [fd16]; omega)
end
example : True := by
  (k_with "call ref" => (k_here; (with_reducible show wpAny _ _ (call (Value.ref 254) _ _) _ _ _); k_dflt (refine' law_block_ok ?B ?F ?X ?T ?hk ?hd ?hu ?h0 ?h1 ?_; (case B => k_asm); (case F => k_asm); (case X => k_asm); (case T => k_asm); (case hk => first | exact rfl | assumption); (case hd => ktr_room); (case hu => ktr_units); (case h0 => first | decide | assumption | omega); (case h1 => first | decide | assumption | omega); k_whole; walk_at "NU same0")))
  trivial
def hit (c : Rc) (x : Int) : Prop := c.r ≤ x ∧ x < c.r - 8 + bsz c.k.wide
def RI (P : Int → Prop) (rs : List Rc) (fs : List Int) : Prop := fs.Nodup ∧ (∀ x ∈ fs, x ∈ rs.map (·.r)) ∧ ∀ x ∈ fs, P x
def ClosedAt (W : Int → Int) (rs : List Rc) (fs : List Int) (c : Rc) : Prop := ∀ o ∈ c.k.offs, W ((c.r + o) / 4) ∈ rs.map (·.r) → W ((c.r + o) / 4) ∈ fs
theorem ClosedAt.mono {W : Int → Int} {rs : List Rc} {fs fs' : List Int} {c : Rc} (h : ClosedAt W rs fs c) (hm : ∀ x ∈ fs, x ∈ fs') : ClosedAt W rs fs' c := fun o ho hi => hm _ (h o ho hi)
theorem RI.len {P : Int → Prop} {rs : List Rc} {fs : List Int} (h : RI P rs fs) : fs.length ≤ rs.length := by
  have key : ∀ (l m : List Int), l.Nodup → (∀ x ∈ l, x ∈ m) → l.length ≤ m.length := by
    intro l
    induction l with
    | nil => intro m _ _; exact Nat.zero_le _
    | cons a r ih =>
      intro m hn hs
      have ha := hs a (.head _)
      have hn' := List.nodup_cons.mp hn
      have h1 := ih (m.erase a) hn'.2 (fun x hx => (List.mem_erase_of_ne (fun e => hn'.1 (by rw [← e]; exact hx))).mpr (hs x (.tail _ hx)))
      rw [List.length_erase_of_mem ha] at h1
      have h2 := List.length_pos_of_mem ha
      simp only [List.length_cons]; omega
  have := key fs (rs.map (·.r)) h.1 h.2.1
  rwa [List.length_map] at this
theorem RI.push {P : Int → Prop} {rs : List Rc} {fs : List Int} {x : Int} (h : RI P rs fs) (hx : x ∈ rs.map (·.r)) (hp : P x) (hn : ¬ x ∈ fs) : RI P rs (fs ++ [x]) := by
  refine ⟨?_, fun y hy => ?_, fun y hy => ?_⟩
  · rw [List.nodup_append]
    refine ⟨h.1, by simp, fun a ha b hb => ?_⟩
    rw [List.mem_singleton.mp hb]
    exact fun e => hn (e ▸ ha)
  · rcases List.mem_append.mp hy with hy | hy
    · exact h.2.1 y hy
    · rw [List.mem_singleton.mp hy]; exact hx
  · rcases List.mem_append.mp hy with hy | hy
    · exact h.2.2 y hy
    · rw [List.mem_singleton.mp hy]; exact hp
theorem RI.nil {P : Int → Prop} {rs : List Rc} : RI P rs [] := ⟨List.nodup_nil, by simp, by simp⟩
theorem upto_succ {α : Type} {p : α → Prop} {xs : List α} {k : Nat} {x : α} (h : ∀ (j : Nat) y, j < k → xs[j]? = some y → p y) (hx : xs[k]? = some x) (hp : p x) : ∀ (j : Nat) y, j < k + 1 → xs[j]? = some y → p y := by
  intro j y hj hy
  by_cases e : j = k
  · subst e; rw [hx] at hy; cases hy; exact hp
  · exact h j y (by omega) hy

theorem lt_of_getElem? {α : Type} {xs : List α} {j : Nat} {x : α} (h : xs[j]? = some x) : j < xs.length := by
  rcases Nat.lt_or_ge j xs.length with q | q
  · exact q
  · rw [List.getElem?_eq_none q] at h; cases h
theorem all_of_upto {α : Type} {p : α → Prop} {xs : List α} {k : Nat} (h : ∀ (j : Nat) y, j < k → xs[j]? = some y → p y) (hk : xs.length ≤ k) : ∀ x ∈ xs, p x := fun x hx => by
  obtain ⟨j, hj⟩ := List.getElem?_of_mem hx
  exact h j x (Nat.lt_of_lt_of_le (lt_of_getElem? hj) hk) hj
/-- the first half: the roots taken so far -/
structure RtSt (P : Int → Prop) (rs : List Rc) (ons fs : List Int) (i : Nat) : Prop where
  ri : RI P rs fs
  root : ∀ (j : Nat) x, j < i → ons[j]? = some x → ∀ c ∈ rs, hit c x → c.r ∈ fs
structure RcSt (P : Int → Prop) (rs : List Rc) (ons fs : List Int) (i : Nat) (x : Int) (k : Nat) : Prop where
  st : RtSt P rs ons fs i
  done1 : ∀ (j : Nat) c, j < k → rs[j]? = some c → hit c x → c.r ∈ fs
theorem RtSt.start {P : Int → Prop} {rs : List Rc} {ons : List Int} : RtSt P rs ons [] 0 := ⟨RI.nil, fun j x h => absurd h (Nat.not_lt_zero _)⟩
theorem RcSt.start {P : Int → Prop} {rs : List Rc} {ons fs : List Int} {i : Nat} {x : Int} (h : RtSt P rs ons fs i) : RcSt P rs ons fs i x 0 := ⟨h, fun j x h => absurd h (Nat.not_lt_zero _)⟩
theorem RcSt.add {P : Int → Prop} {rs : List Rc} {ons fs : List Int} {i k : Nat} {x : Int} {c : Rc} (h : RcSt P rs ons fs i x k) (hc : rs[k]? = some c) (hp : P c.r) (hn : ¬ c.r ∈ fs) : RcSt P rs ons (fs ++ [c.r]) i x (k + 1) :=
  ⟨⟨h.st.ri.push (List.mem_map_of_mem (List.mem_of_getElem? hc)) hp hn, fun j y a b c' d e => List.mem_append_left _ (h.st.root j y a b c' d e)⟩,
    upto_succ (p := fun c' => hit c' x → c'.r ∈ fs ++ [c.r]) (fun j y a b e => List.mem_append_left _ (h.done1 j y a b e)) hc fun _ => List.mem_append_right _ (.head _)⟩
theorem RcSt.keep {P : Int → Prop} {rs : List Rc} {ons fs : List Int} {i k : Nat} {x : Int} {c : Rc} (h : RcSt P rs ons fs i x k) (hc : rs[k]? = some c) (hq : hit c x → c.r ∈ fs) : RcSt P rs ons fs i x (k + 1) :=
  ⟨h.st, upto_succ (p := fun c => hit c x → c.r ∈ fs) h.done1 hc hq⟩
theorem RcSt.done {P : Int → Prop} {rs : List Rc} {ons fs : List Int} {i k : Nat} {x : Int} (h : RcSt P rs ons fs i x k) (hk : rs.length ≤ k) (hx : ons[i]? = some x) : RtSt P rs ons fs (i + 1) :=
  ⟨h.st.ri, upto_succ (p := fun x => ∀ c ∈ rs, hit c x → c.r ∈ fs) h.st.root hx (all_of_upto (p := fun c => hit c x → c.r ∈ fs) h.done1 hk)⟩
/-- the second half: what the records found so far lead to -/
structure WhSt (P : Int → Prop) (W : Int → Int) (rs : List Rc) (ons fs : List Int) (n : Nat) : Prop where
  ri : RI P rs fs
  root : ∀ x ∈ ons, ∀ c ∈ rs, hit c x → c.r ∈ fs
  le : n ≤ fs.length
  cl : ∀ (j : Nat) y, j < n → fs[j]? = some y → ∀ c ∈ rs, c.r = y → ClosedAt W rs fs c
structure OtSt (P : Int → Prop) (W : Int → Int) (rs : List Rc) (ons fs : List Int) (n : Nat) (y0 : Int) (k : Nat) : Prop where
  st : WhSt P W rs ons fs n
  at0 : fs[n]? = some y0
  done1 : ∀ (j : Nat) c, j < k → rs[j]? = some c → c.r = y0 → ClosedAt W rs fs c
structure SpSt (P : Int → Prop) (W : Int → Int) (rs : List Rc) (ons fs : List Int) (n : Nat) (y0 : Int) (k : Nat) (c : Rc) (q : Nat) : Prop where
  st : OtSt P W rs ons fs n y0 k
  sp : ∀ (j : Nat) o, j < q → c.k.offs[j]? = some o → W ((c.r + o) / 4) ∈ rs.map (·.r) → W ((c.r + o) / 4) ∈ fs
section
variable {P : Int → Prop} {W : Int → Int} {rs : List Rc} {ons fs : List Int} {n k q : Nat} {y0 so : Int} {c : Rc}
theorem WhSt.start (h : RtSt P rs ons fs n) (hn : ons.length ≤ n) : WhSt P W rs ons fs 0 :=
  ⟨h.ri, all_of_upto (p := fun x => ∀ c ∈ rs, hit c x → c.r ∈ fs) h.root hn, Nat.zero_le _, fun j y h => absurd h (Nat.not_lt_zero _)⟩
theorem OtSt.start (h : WhSt P W rs ons fs n) (hy : fs[n]? = some y0) : OtSt P W rs ons fs n y0 0 := ⟨h, hy, fun j c h => absurd h (Nat.not_lt_zero _)⟩
theorem OtSt.lt (h : OtSt P W rs ons fs n y0 k) : n < fs.length := lt_of_getElem? h.at0
theorem OtSt.pc (h : OtSt P W rs ons fs n y0 k) (e : c.r = y0) : P c.r := h.st.ri.2.2 _ (by rw [e]; exact List.mem_of_getElem? h.at0)
theorem OtSt.getD (h : OtSt P W rs ons fs n y0 k) {d : Int} : fs.getD ((n : Int) + 1 - 1).toNat d = y0 := by
  have e : ((n : Int) + 1 - 1).toNat = n := by omega
  rw [e, List.getD_eq_getElem?_getD, h.at0, Option.getD_some]
theorem OtSt.skip (h : OtSt P W rs ons fs n y0 k) (hc : rs[k]? = some c) (hn : ¬ c.r = y0) : OtSt P W rs ons fs n y0 (k + 1) :=
  ⟨h.st, h.at0, upto_succ (p := fun c => c.r = y0 → ClosedAt W rs fs c) h.done1 hc fun z => absurd z hn⟩
theorem SpSt.start (h : OtSt P W rs ons fs n y0 k) : SpSt P W rs ons fs n y0 k c 0 := ⟨h, fun j c h => absurd h (Nat.not_lt_zero _)⟩
theorem SpSt.add (h : SpSt P W rs ons fs n y0 k c q) (hso : c.k.offs[q]? = some so) (hin : W ((c.r + so) / 4) ∈ rs.map (·.r)) (hnin : ¬ W ((c.r + so) / 4) ∈ fs) (hp : P (W ((c.r + so) / 4))) : SpSt P W rs ons (fs ++ [W ((c.r + so) / 4)]) n y0 k c (q + 1) := by
  have hm : ∀ x ∈ fs, x ∈ fs ++ [W ((c.r + so) / 4)] := fun x hx => List.mem_append_left _ hx
  have hl := h.st.lt
  exact ⟨⟨⟨h.st.st.ri.push hin hp hnin, fun x a b d e => hm _ (h.st.st.root x a b d e), by rw [List.length_append]; exact Nat.le_trans h.st.st.le (Nat.le_add_right _ _), fun j y hj hy b d e => (h.st.st.cl j y hj (by rw [← hy, List.getElem?_append_left (Nat.lt_trans hj hl)]) b d e).mono hm⟩,
    by rw [List.getElem?_append_left hl]; exact h.st.at0, fun j b hj hb' e => (h.st.done1 j b hj hb' e).mono hm⟩,
    upto_succ (p := fun o => W ((c.r + o) / 4) ∈ rs.map (·.r) → W ((c.r + o) / 4) ∈ fs ++ [W ((c.r + so) / 4)]) (fun j b hj hb' e => hm _ (h.sp j b hj hb' e)) hso fun _ => List.mem_append_right _ (.head _)⟩
theorem SpSt.keep (h : SpSt P W rs ons fs n y0 k c q) (hso : c.k.offs[q]? = some so) (hq : W ((c.r + so) / 4) ∈ rs.map (·.r) → W ((c.r + so) / 4) ∈ fs) : SpSt P W rs ons fs n y0 k c (q + 1) :=
  ⟨h.st, upto_succ (p := fun o => W ((c.r + o) / 4) ∈ rs.map (·.r) → W ((c.r + o) / 4) ∈ fs) h.sp hso hq⟩
theorem SpSt.done (h : SpSt P W rs ons fs n y0 k c q) (hq : c.k.offs.length ≤ q) (hc : rs[k]? = some c) : OtSt P W rs ons fs n y0 (k + 1) :=
  ⟨h.st.st, h.st.at0, upto_succ (p := fun c => c.r = y0 → ClosedAt W rs fs c) h.st.done1 hc fun _ => all_of_upto (p := fun o => W ((c.r + o) / 4) ∈ rs.map (·.r) → W ((c.r + o) / 4) ∈ fs) h.sp hq⟩
theorem OtSt.done (h : OtSt P W rs ons fs n y0 k) (hk : rs.length ≤ k) : WhSt P W rs ons fs (n + 1) :=
  ⟨h.st.ri, h.st.root, h.lt, upto_succ (p := fun y => ∀ c ∈ rs, c.r = y → ClosedAt W rs fs c) h.st.cl h.at0 (all_of_upto (p := fun c => c.r = y0 → ClosedAt W rs fs c) h.done1 hk)⟩
theorem WhSt.done (h : WhSt P W rs ons fs n) (hn : fs.length ≤ n) : ∀ c ∈ rs, c.r ∈ fs → ClosedAt W rs fs c := fun c hc hm => all_of_upto (p := fun y => ∀ c ∈ rs, c.r = y → ClosedAt W rs fs c) h.cl hn _ hm c hc rfl
end
inductive ReachJ1 (P : Int → Prop) (rs : List Rc) (ons : List Int) (xh ar ro fd : Addr) (im : List (Addr × Obj)) (i : Nat) (m1 : Str → Option Value) : List (Addr × Obj) → Prop
  | mk {fa : Array Value} {nf : Nat} {fs : List Int} (hfa : IntsAre fa.toList fs) (S : RtSt P rs ons fs i) (q : AllAt m1 [("area", .ref xh), ("records", .ref ar), ("roots", .ref ro), ("found", .ref fd)]) : ReachJ1 P rs ons xh ar ro fd im i m1 ((fd, listOf fa nf) :: im)
inductive ReachJ2 (P : Int → Prop) (rs : List Rc) (ons : List Int) (xh ar ro fd : Addr) (im : List (Addr × Obj)) (J : Addr × Obj) (i : Nat) (x : Int) (tx : Tok) (k : Nat) (m1 : Str → Option Value) : List (Addr × Obj) → Prop
  | mk {fa : Array Value} {nf : Nat} {fs : List Int} (hfa : IntsAre fa.toList fs) (S : RcSt P rs ons fs i x k) (q : AllAt m1 [("area", .ref xh), ("records", .ref ar), ("roots", .ref ro), ("found", .ref fd), ("word", .int x tx)]) : ReachJ2 P rs ons xh ar ro fd im J i x tx k m1 (J :: (fd, listOf fa nf) :: im)
inductive ReachW (P : Int → Prop) (W : Int → Int) (rs : List Rc) (ons : List Int) (xh ar fd : Addr) (im : List (Addr × Obj)) (g : Heap) (L : Addr) (s : Shared) (kk : Nat) : Shared → Prop
  | mk {h8 : Heap} {tk8 : Nat} {m8 : Str → Option Value} {fa : Array Value} {nf : Nat} {fs : List Int} {n : Nat} {ta : Tok} (F8 : Fr g L h8 (fun y => match List.lookup y [("area", .ref xh), ("records", .ref ar), ("found", .ref fd), ("at", .int n ta)] with | some v => some v | none => m8 y))
      (N8 : News g L h8 ((fd, listOf fa nf) :: im)) (hfa : IntsAre fa.toList fs) (S : WhSt P W rs ons fs n) (hk : kk = 12 - n) : ReachW P W rs ons xh ar fd im g L s kk { s with heap := h8, toks := tk8 }
inductive ReachJ3 (P : Int → Prop) (W : Int → Int) (rs : List Rc) (ons : List Int) (xh ar fd : Addr) (im : List (Addr × Obj)) (n : Nat) (y0 : Int) (k : Nat) (m1 : Str → Option Value) : List (Addr × Obj) → Prop
  | mk {fa : Array Value} {nf : Nat} {fs : List Int} {ta : Tok} (hfa : IntsAre fa.toList fs) (S : OtSt P W rs ons fs n y0 k) (q : AllAt m1 [("area", .ref xh), ("records", .ref ar), ("found", .ref fd), ("at", .int ((n : Int) + 1) ta)]) : ReachJ3 P W rs ons xh ar fd im n y0 k m1 ((fd, listOf fa nf) :: im)
inductive ReachJ4 (P : Int → Prop) (W : Int → Int) (rs : List Rc) (ons : List Int) (xh ar fd : Addr) (im : List (Addr × Obj)) (J : Addr × Obj) (n : Nat) (y0 : Int) (k : Nat) (c : Rc) (q : Nat) (m1 : Str → Option Value) : List (Addr × Obj) → Prop
  | mk {fa : Array Value} {nf : Nat} {fs : List Int} {ta to : Tok} (hfa : IntsAre fa.toList fs) (S : SpSt P W rs ons fs n y0 k c q) (e : AllAt m1 [("area", .ref xh), ("records", .ref ar), ("found", .ref fd), ("at", .int ((n : Int) + 1) ta), ("other", .int c.r to)]) : ReachJ4 P W rs ons xh ar fd im J n y0 k c q m1 (J :: (fd, listOf fa nf) :: im)
inductive CompJ (led : List (Addr × Obj)) (ns : List Int) (i : Nat) (ys : List Value) : List (Addr × Obj) → Prop
  | mk (hys : IntsAre ys (ns.take i)) : CompJ led ns i ys led
/-- reached's ledger: what stands -/
inductive ImReach (h₀ h : Heap) (L xm dm wd xh dh ar ro : Addr) (a1 a2 a3 a4 a5 a6 a7 : Obj) : Prop
  | mk (im : List (Addr × Obj)) (N : News h₀ L h im) (v1 : (xm, a1) ∈ im) (v2 : (dm, a2) ∈ im) (v3 : (wd, a3) ∈ im) (v4 : (xh, a4) ∈ im) (v5 : (dh, a5) ∈ im) (v6 : (ar, a6) ∈ im) (v7 : (ro, a7) ∈ im)
      (hmap : im.map (·.1) = [xm, dm, wd, xh, dh, ar, ro]) : ImReach h₀ h L xm dm wd xh dh ar ro a1 a2 a3 a4 a5 a6 a7
theorem im_reach {h₀ h : Heap} {L : Addr} {news : List (Addr × Obj)} {xm dm wd xh dh ar ro : Addr} {a1 a2 a3 a4 a5 a6 a7 : Obj} (N : News h₀ L h news) (i1 : (xm, a1) ∈ news) (i2 : (dm, a2) ∈ news) (i3 : (wd, a3) ∈ news) (i4 : (xh, a4) ∈ news) (i5 : (dh, a5) ∈ news) (j3 : (ar, a6) ∈ news) (j4 : (ro, a7) ∈ news) : ImReach h₀ h L xm dm wd xh dh ar ro a1 a2 a3 a4 a5 a6 a7 := by
  refine ⟨[(xm, a1), (dm, a2), (wd, a3), (xh, a4), (dh, a5), (ar, a6), (ro, a7)], fun p hp => ?_, by simp, by simp, by simp, by simp, by simp, by simp, by simp, rfl⟩
  simp only [List.mem_cons, List.not_mem_nil, or_false] at hp
  rcases hp with rfl | rfl | rfl | rfl | rfl | rfl | rfl <;> (refine N _ ?_ <;> assumption)

section
variable {w : World} {mean : ExcName → Option Value} {mg mb : Str → Option Value} {dp un : Nat} {gd : Option (List Code)} {cn : Str} {cs : Scope} {a : Addr} {ccd : Value} {cl : List (Str × Addr)} {outer : List Env} {A₀ : Around} {base h₀ : Heap} {L : Addr} {m : Str → Option Value} {s : Shared}
  {news : List (Addr × Obj)} {xm dm wd xh dh fl : Addr} {z1 z2 z3 z4 z5 z6 : Int} {k1 k2 t1 k3 k4 t4 k5 t5 k6 : Tok} {n n' : Nat} {o : Obj} {W : Int → Int}
  {ah ac ak ar ro : Addr} {rvs ovs : List Value} {ons : List Int} {nr no : Nat} {rs : List Rc}
set_option maxHeartbeats 8000000 in
theorem reached_ok {P : Int → Prop} {Q E : Value → Shared → Prop}
    (B : Below A₀ base outer h₀) (F : Fr h₀ L s.heap m) (X : (hd.heap_39 w.params).In h₀) (T : TopH mean mg mb h₀) (hk : cs.kind = .function) (hd : dp + 20 < recursionLimit) (hu : un + 200 < cLine)
    (N : News h₀ L s.heap news) (i1 : (xm, memObj dm) ∈ news) (i2 : (dm, memDict z1 k1 t1 z2 k2 wd n) ∈ news) (i3 : (wd, o) ∈ news)
    (i4 : (xh, heapObj dh) ∈ news) (i5 : (dh, heapDict z3 k3 xm z4 k4 t4 z5 k5 t5 z6 k6 fl n') ∈ news) (hlo : (wd == sysModules) = false) (hM : MemIs w o W)
    (j3 : (ar, listOf rvs.toArray nr) ∈ news) (hR : Rel2 (RecV [ac, ah, dm, xm, wd, ak, dh, xh, fl, ar, ro] s.heap) rvs rs) (hrn : rs.length ≤ 12)
    (j4 : (ro, listOf ovs.toArray no) ∈ news) (ho : IntsAre ovs ons) (hon : ons.length ≤ 5)
    (l3 : dm < xm) (l4 : xm < wd) (l5 : wd < dh) (l7 : dh < xh) (l8 : xh < ar) (l9 : ar < ro)
    (hw : ∀ c ∈ rs, 0 ≤ c.k.wide ∧ c.k.wide < 900) (hb : ∀ c ∈ rs, ∀ o ∈ c.k.offs, 0 ≤ c.r + o ∧ c.r + o < 8192)
    (hP0 : ∀ x ∈ ons, ∀ c ∈ rs, hit c x → P c.r) (hP1 : ∀ c ∈ rs, P c.r → ∀ o ∈ c.k.offs, W ((c.r + o) / 4) ∈ rs.map (·.r) → P (W ((c.r + o) / 4)))
    (ret : ∀ fd fvs fs nf h' tk', Same [] s.heap h' → h'.get? fd = some (listOf (List.toArray fvs) nf) → IntsAre fvs fs → ro < fd → s.heap.get? fd = none → RI P rs fs → (∀ x ∈ ons, ∀ c ∈ rs, hit c x → c.r ∈ fs) → (∀ c ∈ rs, c.r ∈ fs → ClosedAt W rs fs c) →
      Q (.ref fd) { s with heap := h', toks := tk' }) :
    wpAny (model pw w) (ktrTop dp un gd cn cs L a ccd cl outer) (call (.ref 280) [.ref xh, .ref ar, .ref ro]) Q E s := by
  obtain ⟨im, N, v1, v2, v3, v4, v5, v6, v7, hmap⟩ := im_reach N i1 i2 i3 i4 i5 j3 j4
  clear i1 i2 i3 i4 i5 j3 j4
  have hrl := hR.1
  have hol := ho.length
  k_dflt walk_at "NU enter"
  intro g' L' h' Qb hg' hL' hQ hQn F' N' B' X' T'
  have hRg : Rel2 (RecV [ac, ah, dm, xm, wd, ak, dh, xh, fl, ar, ro] g') rvs rs := hR.mono fun v x q => q.stays fun b o n e => hg' b o (fun z => n (by
    simp only [hmap, List.mem_cons, List.not_mem_nil, or_false] at z ⊢
    rcases z with rfl | rfl | rfl | rfl | rfl | rfl | rfl <;> simp)) e
  (try dsimp only); (try k_lift B'); (try k_fold)
  k_steps
  rename_i fd hx1 lf hx2 F9 N9
  refine hold_out ?_
  refine for_list (ReachJ1 P rs ons xh ar ro fd im) (by rfl) (by first | exact PassesOwn.never | passes_own | with_unfolding_all passes_own) F9 N9 (.tail _ v7) (ReachJ1.mk (fa := #[]) .nil RtSt.start rfl) ?_ ?_ ?_
  · rintro i m' nw ⟨_⟩
    exact .tail _ v7
  · rintro J9 i v m1 nw h8 tk8 oI Wb hv ⟨hfa, S, q⟩ hoff hlt F8 N8 hJ
    obtain ⟨x, tx, rfl, hx⟩ := ints_get ho hv
    have F7 := fr_over _ q F8
    have hl2 : fd < J9 := hlt (fd, _) (.head _)
    clear F9 N9 F8 q hlt
    k_steps
    rename Fr _ _ _ _ => F9
    rename News _ _ _ _ => N9
    refine hold_out ?_
    refine for_list (ReachJ2 P rs ons xh ar ro fd im (J9, oI) i x tx) (by rfl) (by first | exact PassesOwn.never | passes_own | with_unfolding_all passes_own) F9 N9 (.tail _ (.tail _ v6)) ⟨hfa, RcSt.start S, rfl⟩ ?_ ?_ ?_
    · rintro i m' nw ⟨_⟩
      exact .tail _ (.tail _ v6)
    · clear hfa S
      rintro J8 k v m1 nw h8 tk8 oJ Vb hv2 ⟨hfa, S, q⟩ hoff2 hlt2 F8 N8 hJ2
      rename_i fa nf fs
      obtain ⟨c, hc, ra, rfl, hr⟩ := hRg.get hv2
      have hcm := List.mem_of_getElem? hc
      obtain ⟨y1, y2⟩ := hw c hcm
      have F7 := fr_over _ q F8
      have hl3 : fd < J8 := hlt2 (fd, _) (.tail _ (.head _))
      clear F9 N9 F8 q hlt2
      have hlen := S.st.ri.len
      have hfas : fa.size = fs.length := by rw [← hfa.length, Array.length_toList]
      k_steps
      all_goals (rename Fr _ _ _ _ => F9; rename News _ _ _ _ => N9)
      · rename (¬ c.r ∈ fs) => hnin
        rename (c.r ≤ x) => h1x
        rename (x < c.r - 8 + _) => h2x
        exact hJ2 _ ⟨F9, N9, hoff2, ints_push hfa, S.add hc (hP0 x (List.mem_of_getElem? hx) c hcm ⟨h1x, h2x⟩) hnin, rfl⟩
      · rename (¬ ¬ c.r ∈ fs) => hin
        exact hJ2 _ ⟨F9, N9, hoff2, hfa, S.keep hc (fun _ => Classical.not_not.mp hin), rfl⟩
      · rename (¬ x < c.r - 8 + _) => h2x
        exact hJ2 _ ⟨F9, N9, hoff2, hfa, S.keep hc (fun q => absurd q.2 h2x), rfl⟩
      · rename (¬ c.r ≤ x) => h1x
        exact hJ2 _ ⟨F9, N9, hoff2, hfa, S.keep hc (fun q => absurd q.1 h1x), rfl⟩
    · clear hfa S
      rintro m1 nw h8 tk8 ⟨hfa, S, q⟩ F8 N8
      clear F9 N9
      (try dsimp only)
      k_steps
      rename Fr _ _ _ _ => F9
      rename News _ _ _ _ => N9
      exact hJ _ ⟨F9, N9, hoff, hfa, S.done (Nat.le_of_eq hrl.symm) hx, q.take 4⟩
  · rintro m1 nw h8 tk8 ⟨hfa, S, q⟩ F8 N8
    have F7 := fr_over _ q F8
    clear F9 N9 F8 q
    (try dsimp only); (try k_fold)
    k_steps
    rename Fr _ _ _ _ => F9
    rename News _ _ _ _ => N9
    refine hold_out ?_
    refine while_walk (ReachW P W rs ons xh ar fd im g' L' s) 12 (by first | exact PassesOwn.never | passes_own | with_unfolding_all passes_own) ?_ ⟨fr_over _ (by rfl) F9, N9, hfa, WhSt.start (n := ovs.length) S (Nat.le_of_eq hol.symm), rfl⟩
    clear hfa S
    rintro kk s1 Wb Wx ⟨F8, N8, hfa, S, rfl⟩ hJ hR2 hX
    rename_i fa nf fs n ta
    clear F9 N9
    have hlen := S.ri.len
    have hfas : fa.size = fs.length := by rw [← hfa.length, Array.length_toList]
    k_steps
    · rename Fr _ _ _ _ => F9
      rename News _ _ _ _ => N9
      rename ((n : Int) < _) => hlt9
      obtain ⟨y0, hy0⟩ : ∃ y0, fs[n]? = some y0 := ⟨fs[n], List.getElem?_eq_getElem (by omega)⟩
      refine hold_out ?_
      refine for_list (ReachJ3 P W rs ons xh ar fd im n y0) (by rfl) (by first | exact PassesOwn.never | passes_own | with_unfolding_all passes_own) F9 N9 (.tail _ v6) ⟨hfa, OtSt.start S hy0, rfl⟩ ?_ ?_ ?_
      · rintro i m' nw ⟨_⟩
        exact .tail _ v6
      · clear hy0 hlt9 hlen hfas S hfa
        rintro J8 k v m1 nw h8 tk8 oJ Vb hv2 ⟨hfa, S, q⟩ hoff2 hlt F8 N8 hJ2
        rename_i fa nf fs tat
        try clear F7
        obtain ⟨c, hc, ra, rfl, hr⟩ := hRg.get hv2
        have hcm := List.mem_of_getElem? hc
        have F7 := fr_over _ q F8
        have hl2 : fd < J8 := hlt (fd, _) (.head _)
        clear F9 N9 F8 q hlt
        have hlen := S.st.ri.len
        have hfas : fa.size = fs.length := by rw [← hfa.length, Array.length_toList]
        have hatl := S.lt
        k_steps
        · rename Fr _ _ _ _ => F9
          rename News _ _ _ _ => N9
          rename LisRef _ _ _ _ => hlis
          rename (c.r = fs.getD _ _) => hcy
          rw [S.getD] at hcy
          obtain ⟨svs, sno, hsv, hsi, _⟩ := hlis
          refine hold_out ?_
          refine for_listB (fun q => ReachJ4 P W rs ons xh ar fd im (J8, oJ) n y0 k c q) (by rfl) (by first | exact PassesOwn.never | passes_own | with_unfolding_all passes_own) F9 N9 hsv ⟨hfa, SpSt.start S, rfl⟩ ?_ ?_
          · clear hatl hlen hfas S hfa
            rintro J7 q v m1 nw h8 tk8 oK Ub hv3 ⟨hfa, S, e⟩ hoff3 hlt3 F8 N8 hJ3
            rename_i fa nf fs tat to
            try clear F7
            obtain ⟨so, tso, rfl, hso⟩ := ints_get hsi hv3
            have hbs := hb c hcm so (List.mem_of_getElem? hso)
            have F7 := fr_over _ e F8
            have hl3 : fd < J7 := hlt3 (fd, _) (.tail _ (.head _))
            clear F9 N9 F8 e hlt3
            have hlen := S.st.st.ri.len
            have hfas : fa.size = fs.length := by rw [← hfa.length, Array.length_toList]
            k_steps
            rename Fr _ _ _ _ => F9
            rename News _ _ _ _ => N9
            refine hold_out (LCg.CompSrc.ledger (by rfl) F9 N9 (.tail _ (.tail _ (.tail _ v6))) (by rw [sizeLine_eq, List.size_toArray]; omega) (fun gg => comp_ind (n := rvs.toArray.size) (CompJ ((J7, oK) :: (J8, oJ) :: (fd, listOf fa nf) :: im) (rs.map (·.r))) ?_ ?_ _ 0 [] _ (Nat.zero_add _) ⟨.nil⟩))
            · clear F9 N9
              rintro i ys nw v I1 oI1 C1 oC1 D1 m2 h1 tk1 E1 hi1 ⟨hys⟩ hv1 hC1 hx1' F1 N1 off1 ne1 Cb hC
              obtain ⟨c', hc', ra', rfl, hr'⟩ := hRg.get (by simpa using hv1 : rvs[i]? = some v)
              k_steps
              rename Fr _ _ _ _ => F9
              rename News _ _ _ _ => N9
              refine hC _ _ (LCg.CompEnd.intro F9 N9 _ (fun p hp => hp) off1 (.inr ⟨_, .tail _ (.tail _ (.tail _ v6)), rfl, _, rfl⟩) ⟨?_⟩)
              rw [List.take_add_one, List.getElem?_map, hc']
              exact ints_snoc hys
            · clear F9 N9
              rintro ys nw ⟨hys⟩
              intro D1 hD tkD FD ND offD
              have hys2 : IntsAre ys (rs.map (·.r)) := by
                have : rvs.toArray.size = (rs.map (·.r)).length := by simp [hrl]
                rw [this, List.take_length] at hys
                exact hys
              simp only [LCg.Off1, and_true] at offD
              k_steps
              all_goals (rename Fr _ _ _ _ => F9; rename News _ _ _ _ => N9)
              · rename (W _ ∈ rs.map _) => hin
                rename (¬ W _ ∈ fs) => hnin
                exact hJ3 _ ⟨F9, fun p hp => N9 p (.tail _ hp), hoff3, ints_push hfa, S.add hso hin hnin (hP1 c hcm (S.st.pc hcy) so (List.mem_of_getElem? hso) hin), rfl⟩
              · rename (¬ ¬ W _ ∈ fs) => hin
                exact hJ3 _ ⟨F9, fun p hp => N9 p (.tail _ hp), hoff3, hfa, S.keep hso (fun _ => Classical.not_not.mp hin), rfl⟩
              · rename (¬ W _ ∈ rs.map _) => hnin
                exact hJ3 _ ⟨F9, fun p hp => N9 p (.tail _ hp), hoff3, hfa, S.keep hso (fun z => absurd z hnin), rfl⟩
          · clear hatl hlen hfas S hfa
            rintro m1 nw h8 tk8 ⟨hfa, S, e⟩ F8 N8
            clear F9 N9
            (try dsimp only)
            k_steps
            rename Fr _ _ _ _ => F9
            rename News _ _ _ _ => N9
            exact hJ2 _ ⟨F9, N9, hoff2, hfa, S.done (Nat.le_of_eq hsi.length.symm) hc, e.take 4⟩
        · rename Fr _ _ _ _ => F9
          rename News _ _ _ _ => N9
          rename (¬ c.r = fs.getD _ _) => hcy
          rw [S.getD] at hcy
          exact hJ2 _ ⟨F9, N9, hoff2, hfa, S.skip hc hcy, rfl⟩
      · clear hy0 hlt9 hlen hfas S hfa
        rintro m1 nw h8 tk8 ⟨hfa, S, q⟩ F8 N8
        clear F9 N9
        have hlen := S.st.ri.len
        have hatl := S.lt
        (try dsimp only)
        k_steps
        rename Fr _ _ _ _ => F9
        rename News _ _ _ _ => N9
        exact hJ (12 - (n + 1)) _ (by omega) ⟨fr_over _ q F9, N9, hfa, S.done (Nat.le_of_eq hrl.symm), rfl⟩
    · refine hX _ ?_
      (try dsimp only)
      k_steps
      rename Fr _ _ _ _ => F9
      rename News _ _ _ _ => N9
      rename (¬ (n : Int) < _) => hge9
      have hid : ∀ b ∈ im.map (·.1), b < fd := fun b hb => by
        obtain ⟨p, hp, rfl⟩ := List.mem_map.mp hb
        exact lf p hp
      exact hQ _ _ (ret fd fa.toList fs nf _ _ (same_end [] hg' F9 N9 (fun p hp => (N p hp).1) (fun p hp => .inr (.tail _ hp))) (by rw [Array.toArray_toList]; exact (N9 _ (.head _)).1) hfa (lf _ v7) (made_none hg' hid (Nat.le_refl _) (N9 _ (.head _)).2.2) S.ri S.root (S.done (by omega)))
end


example : True := by (w_top off); trivial
structure KindOk (W : Int → Int) (k : Kd) : Prop where
  lo : 64 ≤ k.wh
  al : k.wh % 4 = 0
  hi : k.wh + 96 ≤ 1024
  w0 : 0 ≤ k.wide
  w1 : k.wide ≤ 44
  wal : k.wide % 4 = 0
  wide : W (k.wh / 4) = k.wide
  off : ∀ (j : Nat) o, k.offs[j]? = some o → W ((k.wh + 20) / 4 + j) = o ∧ o % 4 = 0 ∧ 0 ≤ o ∧ o + 4 ≤ k.wide
  fin : W ((k.wh + 20) / 4 + k.offs.length) = 4294967295
  nd : k.offs.Nodup
  len : k.offs.length ≤ 11

theorem KindOk.congr {W W' : Int → Int} {k : Kd} (h : KindOk W k) (e : ∀ p, p < 256 → W' p = W p) : KindOk W' k := by
  have a := h.lo; have b := h.hi; have l := h.len; have al := h.al
  refine ⟨h.lo, h.al, h.hi, h.w0, h.w1, h.wal, (e _ (by omega)).trans h.wide, fun j o hj => ?_, (e _ (by omega)).trans h.fin, h.nd, h.len⟩
  have hjl : j < k.offs.length := by
    rcases Nat.lt_or_ge j k.offs.length with q | q
    · exact q
    · rw [List.getElem?_eq_none q] at hj; cases hj
  have := h.off j o hj
  exact ⟨(e _ (by omega)).trans this.1, this.2⟩

def mkp (c : Rc) : Int := (c.r + -4) / 4
def fpl (c : Rc) (o : Int) : Int := (c.r + o) / 4
def Chain : Int → List Rc → Int → Prop
  | b, [], e => b = e
  | b, c :: r, e => c.r = b + 8 ∧ Chain (b + bsz c.k.wide) r e
def FldOk (rs : List Rc) (v : Int) : Prop := v = 0 ∨ v = 64 ∨ v = 1020 ∨ v = 8000 ∨ ∃ c' ∈ rs, v = c'.r

structure Lay (W : Int → Int) (rs : List Rc) (e : Int) : Prop where
  chain : Chain 1024 rs e
  hi : e ≤ 1504
  free : e < 1504 → W (e / 4) = 1504 - e + 1
  kind : ∀ c ∈ rs, KindOk W c.k
  head : ∀ c ∈ rs, W ((c.r + -8) / 4) = c.k.wh
  flds : ∀ c ∈ rs, ∀ i, 0 ≤ i → 4 * i < c.k.wide → FldOk rs (W ((c.r + 4 * i) / 4))

structure Geo (rs : List Rc) (b e : Int) : Prop where
  al : ∀ c ∈ rs, c.r % 16 = 8
  lo : ∀ c ∈ rs, b + 8 ≤ c.r
  hi : ∀ c ∈ rs, c.r - 8 + bsz c.k.wide ≤ e
  dj : ∀ c ∈ rs, ∀ c' ∈ rs, c = c' ∨ c.r + bsz c.k.wide ≤ c'.r ∨ c'.r + bsz c'.k.wide ≤ c.r
  nd : (rs.map (·.r)).Nodup
  ea : e % 16 = 0
  be : b ≤ e

theorem Chain.geo {rs : List Rc} : ∀ {b e : Int}, Chain b rs e → b % 16 = 0 → (∀ c ∈ rs, 0 ≤ c.k.wide) → Geo rs b e := by
  induction rs with
  | nil =>
    intro b e h hb _
    have : b = e := h
    subst this
    exact ⟨(fun _ h => nomatch h), (fun _ h => nomatch h), (fun _ h => nomatch h), (fun _ h => nomatch h), List.nodup_nil, hb, Int.le_refl _⟩
  | cons c r ih =>
    intro b e h hb hw
    obtain ⟨h1, h2⟩ := h
    have hf := bsz_facts (hw c (.head _))
    have G := ih h2 (by omega) (fun c' h => hw c' (.tail _ h))
    have hbe := G.be
    refine ⟨fun c' hc => ?_, fun c' hc => ?_, fun c' hc => ?_, fun c' hc c'' hc' => ?_, ?_, G.ea, by omega⟩
    · rcases List.mem_cons.mp hc with rfl | hc
      · omega
      · exact G.al c' hc
    · rcases List.mem_cons.mp hc with rfl | hc
      · omega
      · have := G.lo c' hc; omega
    · rcases List.mem_cons.mp hc with rfl | hc
      · omega
      · exact G.hi c' hc
    · rcases List.mem_cons.mp hc with q1 | q1 <;> rcases List.mem_cons.mp hc' with q2 | q2
      · exact .inl (q1.trans q2.symm)
      · have := G.lo c'' q2; subst q1; exact .inr (.inl (by omega))
      · have := G.lo c' q1; subst q2; exact .inr (.inr (by omega))
      · exact G.dj c' q1 c'' q2
    · rw [List.map_cons, List.nodup_cons]
      refine ⟨fun hm => ?_, G.nd⟩
      obtain ⟨c', hc', q⟩ := List.mem_map.mp hm
      have := G.lo c' hc'
      have q' : c'.r = c.r := q
      omega

theorem Lay.geo {W : Int → Int} {rs : List Rc} {e : Int} (h : Lay W rs e) : Geo rs 1024 e := h.chain.geo (by decide) (fun c hc => (h.kind c hc).w0)

section
variable {O W W' W0 : Int → Int} {rs : List Rc} {e : Int}
/-- two records: the same, or apart -/
theorem Lay.apart (h : Lay O rs e) {c c' : Rc} (hc : c ∈ rs) (hc' : c' ∈ rs) : (c = c' ∨ c.r + c.k.wide + 8 ≤ c'.r ∨ c'.r + c'.k.wide + 8 ≤ c.r) ∧ c.r % 16 = 8 ∧ c'.r % 16 = 8 ∧ 1032 ≤ c.r ∧ 1032 ≤ c'.r ∧ c.r + c.k.wide ≤ 1504 ∧ c'.r + c'.k.wide ≤ 1504 ∧ 0 ≤ c.k.wide ∧ 0 ≤ c'.k.wide := by
  have G := h.geo
  have w := (h.kind c hc).w0
  have w' := (h.kind c' hc').w0
  have f := bsz_facts w
  have f' := bsz_facts w'
  have := h.hi
  have a1 := G.hi c hc
  have a2 := G.hi c' hc'
  refine ⟨?_, G.al c hc, G.al c' hc', G.lo c hc, G.lo c' hc', by omega, by omega, w, w'⟩
  rcases G.dj c hc c' hc' with q | q | q
  · exact .inl q
  · exact .inr (.inl (by omega))
  · exact .inr (.inr (by omega))
theorem Lay.lim (h : Lay O rs e) {c : Rc} (hc : c ∈ rs) : 1032 ≤ c.r ∧ c.r < 1504 := by
  have G := h.geo
  have f := bsz_facts (h.kind c hc).w0
  have := h.hi
  have := G.hi c hc
  have := G.lo c hc
  have := G.al c hc
  omega
theorem Lay.rinj (h : Lay O rs e) {c c' : Rc} (hc : c ∈ rs) (hc' : c' ∈ rs) (q : c.r = c'.r) : c = c' := by
  obtain ⟨a, _⟩ := h.apart hc hc'
  have b := (h.kind c hc).w0
  have b' := (h.kind c' hc').w0
  rcases a with a | a | a
  · exact a
  · omega
  · omega
theorem Lay.mkinj (h : Lay O rs e) {c c' : Rc} (hc : c ∈ rs) (hc' : c' ∈ rs) (q : mkp c = mkp c') : c = c' := by
  obtain ⟨a, b⟩ := h.apart hc hc'
  unfold mkp at q
  exact h.rinj hc hc' (by omega)
theorem Lay.offb (h : Lay O rs e) {c : Rc} (hc : c ∈ rs) {o : Int} (ho : o ∈ c.k.offs) : o % 4 = 0 ∧ 0 ≤ o ∧ o + 4 ≤ c.k.wide := by
  obtain ⟨j, hj⟩ := List.getElem?_of_mem ho
  exact ((h.kind c hc).off j o hj).2
theorem Lay.mkfp (h : Lay O rs e) {c c' : Rc} (hc : c ∈ rs) (hc' : c' ∈ rs) {o : Int} (ho : o ∈ c'.k.offs) : fpl c' o ≠ mkp c := by
  obtain ⟨a, b⟩ := h.apart hc hc'
  have := h.offb hc' ho
  unfold mkp fpl
  rcases a with rfl | a | a <;> omega
theorem Lay.fpinj (h : Lay O rs e) {c c' : Rc} (hc : c ∈ rs) (hc' : c' ∈ rs) {o o' : Int} (ho : o ∈ c.k.offs) (ho' : o' ∈ c'.k.offs) (q : fpl c o = fpl c' o') : c = c' ∧ o = o' := by
  obtain ⟨a, b⟩ := h.apart hc hc'
  have := h.offb hc ho
  have := h.offb hc' ho'
  unfold fpl at q
  rcases a with rfl | a | a
  · exact ⟨rfl, by omega⟩
  · exfalso; omega
  · exfalso; omega
theorem Lay.lowmk (h : Lay O rs e) {c : Rc} (hc : c ∈ rs) {p : Int} (hp : p < 256) : p ≠ mkp c := by
  obtain ⟨a, b⟩ := h.apart hc hc
  unfold mkp; omega
theorem Lay.lowfp (h : Lay O rs e) {c : Rc} (hc : c ∈ rs) {o p : Int} (ho : o ∈ c.k.offs) (hp : p < 256) : p ≠ fpl c o := by
  obtain ⟨a, b⟩ := h.apart hc hc
  have := h.offb hc ho
  unfold fpl; omega
theorem Lay.hdmk (h : Lay O rs e) {c c' : Rc} (hc : c ∈ rs) (hc' : c' ∈ rs) : (c.r + -8) / 4 ≠ mkp c' := by
  obtain ⟨a, b⟩ := h.apart hc hc'
  unfold mkp
  rcases a with rfl | a | a <;> omega
theorem Lay.hdfp (h : Lay O rs e) {c c' : Rc} (hc : c ∈ rs) (hc' : c' ∈ rs) {o : Int} (ho : o ∈ c'.k.offs) : (c.r + -8) / 4 ≠ fpl c' o := by
  obtain ⟨a, b⟩ := h.apart hc hc'
  have := h.offb hc' ho
  unfold fpl
  rcases a with rfl | a | a <;> omega
theorem Lay.fld (h : Lay O rs e) {c : Rc} (hc : c ∈ rs) {o : Int} (ho : o ∈ c.k.offs) : FldOk rs (O (fpl c o)) := by
  obtain ⟨a, b, d⟩ := h.offb hc ho
  have := h.flds c hc (o / 4) (by omega) (by omega)
  have e : 4 * (o / 4) = o := by omega
  rw [e] at this
  exact this

def cntM (W : Int → Int) (rs : List Rc) : Nat := rs.countP (fun c => decide (W (mkp c) ≠ 0))
def wt (W : Int → Int) (c : Rc) : Nat := c.k.offs.length + 1 - (if W (mkp c) = 0 then 0 else 1 + ((W (mkp c) - (c.k.wh + 20)) / 4).toNat)
def meas (W : Int → Int) (rs : List Rc) : Nat := (rs.map (wt W)).sum

theorem sum_lt {f g : Rc → Nat} : ∀ {l : List Rc}, (∀ c ∈ l, f c ≤ g c) → (∃ c ∈ l, f c < g c) → (l.map f).sum < (l.map g).sum := by
  have le : ∀ {l : List Rc}, (∀ c ∈ l, f c ≤ g c) → (l.map f).sum ≤ (l.map g).sum := by
    intro l
    induction l with
    | nil => intro _; exact Nat.le_refl _
    | cons a r ih =>
      intro h
      have := h a (.head _)
      have := ih fun c hc => h c (.tail _ hc)
      simp only [List.map_cons, List.sum_cons]; omega
  intro l
  induction l with
  | nil => intro _ ⟨c, h, _⟩; cases h
  | cons a r ih =>
    intro h ⟨c, hc, lt⟩
    simp only [List.map_cons, List.sum_cons]
    rcases List.mem_cons.mp hc with rfl | hc
    · have := le fun c hc => h c (.tail _ hc); omega
    · have := ih (fun c hc => h c (.tail _ hc)) ⟨c, hc, lt⟩
      have := h a (.head _); omega
theorem cnt_same {l : List Rc} (h : ∀ c ∈ l, (W' (mkp c) ≠ 0 ↔ W (mkp c) ≠ 0)) : cntM W' l = cntM W l := by
  unfold cntM
  refine List.countP_congr fun c hc => ?_
  simpa using h c hc
theorem cnt_one : ∀ {l : List Rc} {t : Rc}, l.Nodup → t ∈ l → W (mkp t) = 0 → W' (mkp t) ≠ 0 → (∀ c ∈ l, c ≠ t → W' (mkp c) = W (mkp c)) → cntM W' l = cntM W l + 1 := by
  intro l
  induction l with
  | nil => intro t _ h; cases h
  | cons a r ih =>
    intro t hn ht h0 h1 hs
    obtain ⟨na, nr⟩ := List.nodup_cons.mp hn
    unfold cntM
    rw [List.countP_cons, List.countP_cons]
    by_cases e : a = t
    · subst e
      have : cntM W' r = cntM W r := cnt_same fun c hc => by rw [hs c (.tail _ hc) (fun q => na (q ▸ hc))]
      unfold cntM at this
      rw [this]
      simp [h0, h1]
    · have ht' : t ∈ r := by
        rcases List.mem_cons.mp ht with q | q
        · exact absurd q.symm e
        · exact q
      have := ih nr ht' h0 h1 fun c hc => hs c (.tail _ hc)
      unfold cntM at this
      rw [this, hs a (.head _) e]; omega
theorem sub_len : ∀ (l m : List Int), l.Nodup → (∀ x ∈ l, x ∈ m) → l.length ≤ m.length := by
  intro l
  induction l with
  | nil => intro m _ _; exact Nat.zero_le _
  | cons a r ih =>
    intro m hn hs
    have ha := hs a (.head _)
    have hn' := List.nodup_cons.mp hn
    have h1 := ih (m.erase a) hn'.2 (fun x hx => (List.mem_erase_of_ne (fun e => hn'.1 (by rw [← e]; exact hx))).mpr (hs x (.tail _ hx)))
    rw [List.length_erase_of_mem ha] at h1
    have h2 := List.length_pos_of_mem ha
    simp only [List.length_cons]; omega
theorem nodup_of_map {l : List Rc} (h : (l.map (·.r)).Nodup) : l.Nodup := by
  induction l with
  | nil => exact List.nodup_nil
  | cons a r ih =>
    rw [List.map_cons, List.nodup_cons] at h
    rw [List.nodup_cons]
    exact ⟨fun q => h.1 (List.mem_map_of_mem q), ih h.2⟩
theorem filter_map_nodup {l : List Rc} {p : Rc → Bool} (h : (l.map (·.r)).Nodup) : ((l.filter p).map (·.r)).Nodup :=
  List.Nodup.sublist (List.Sublist.map _ List.filter_sublist) h

structure MSt (O W : Int → Int) (rs : List Rc) : Prop where
  same : ∀ p, (∀ c ∈ rs, p ≠ mkp c) → W p = O p
  mks : ∀ c ∈ rs, W (mkp c) = 0 ∨ W (mkp c) = c.k.wh + 20 + 4 * (c.k.offs.length : Int)
  clo : ∀ c ∈ rs, W (mkp c) ≠ 0 → ∀ o ∈ c.k.offs, ∀ c' ∈ rs, O (fpl c o) = c'.r → W (mkp c') ≠ 0

def cur (W : Int → Int) (c : Rc) (o : Int) : Prop := ∃ j : Nat, c.k.offs[j]? = some o ∧ W (mkp c) = c.k.wh + 20 + 4 * (j : Int)
theorem cur.mem {c : Rc} {o : Int} (h : cur W c o) : o ∈ c.k.offs := let ⟨_, a, _⟩ := h; List.mem_of_getElem? a
theorem cur.fn {c : Rc} {o o' : Int} (h : cur W c o) (h' : cur W c o') : o = o' := by
  obtain ⟨j, a, b⟩ := h
  obtain ⟨j', a', b'⟩ := h'
  have : j = j' := by omega
  subst this
  rw [a] at a'; exact Option.some.inj a'
theorem cur.congr {c : Rc} {o : Int} (h : cur W c o) (e : W' (mkp c) = W (mkp c)) : cur W' c o := let ⟨j, a, b⟩ := h; ⟨j, a, e.trans b⟩

/-- the way back: the records whose field at hand is turned -/
def Stk (O W : Int → Int) (rs : List Rc) : Int → Int → List Rc → Prop
  | b, _, [] => b = 0
  | b, t, c :: r => c ∈ rs ∧ b = c.r ∧ ∃ o, cur W c o ∧ O (fpl c o) = t ∧ Stk O W rs (W (fpl c o)) c.r r
theorem Stk.frame : ∀ {st : List Rc} {b t : Int}, Stk O W rs b t st → (∀ c ∈ st, c ∈ rs → W' (mkp c) = W (mkp c)) → (∀ c ∈ st, c ∈ rs → ∀ o, cur W c o → W' (fpl c o) = W (fpl c o)) → Stk O W' rs b t st := by
  intro st
  induction st with
  | nil => intro b t h _ _; exact h
  | cons c r ih =>
    intro b t ⟨h1, h2, o, h3, h4, h5⟩ hm hf
    refine ⟨h1, h2, o, h3.congr (hm c (.head _) h1), h4, ?_⟩
    rw [hf c (.head _) h1 o h3]
    exact ih h5 (fun c hc => hm c (.tail _ hc)) fun c hc => hf c (.tail _ hc)
theorem Stk.sub : ∀ {st : List Rc} {b t : Int}, Stk O W rs b t st → ∀ c ∈ st, c ∈ rs ∧ ∃ o, cur W c o := by
  intro st
  induction st with
  | nil => intro b t _ c h; cases h
  | cons a r ih =>
    intro b t ⟨h1, h2, o, h3, h4, h5⟩ c hc
    rcases List.mem_cons.mp hc with rfl | hc
    · exact ⟨h1, o, h3⟩
    · exact ih h5 c hc
theorem Lay.cur_ne (h : Lay O rs e) {c : Rc} {o : Int} (hc : c ∈ rs) (q : cur W c o) : W (mkp c) ≠ 0 := by
  obtain ⟨j, a, b⟩ := q
  have := (h.kind c hc).lo
  omega
theorem Lay.stk_b (h : Lay O rs e) {st : List Rc} {b t : Int} (q : Stk O W rs b t st) : b = 0 ∨ (1032 ≤ b ∧ b < 1504) := by
  cases st with
  | nil => exact .inl q
  | cons c r =>
    obtain ⟨h1, h2, _⟩ := q
    have := h.lim h1
    exact .inr (by omega)

structure DSW (O W0 : Int → Int) (rs : List Rc) (P : Int → Prop) (root : Int) (cn h b : Int) (W : Int → Int) (x : Rc) (rest : List Rc) : Prop where
  xin : x ∈ rs
  hx : h = x.r
  nd : (x :: rest).Nodup
  stk : Stk O W rs b h rest
  same : ∀ p, (∀ c ∈ rs, p ≠ mkp c) → (∀ c ∈ rest, ∀ o, cur W c o → p ≠ fpl c o) → W p = O p
  mks : ∀ c ∈ rs, W (mkp c) = 0 ∨ ∃ j : Nat, j ≤ c.k.offs.length ∧ W (mkp c) = c.k.wh + 20 + 4 * (j : Int)
  done : ∀ c ∈ rs, ∀ (i j : Nat), W (mkp c) = c.k.wh + 20 + 4 * (j : Int) → i < j → ∀ o, c.k.offs[i]? = some o → ∀ c' ∈ rs, O (fpl c o) = c'.r → W (mkp c') ≠ 0
  fin : ∀ c ∈ rs, W (mkp c) ≠ 0 → c ∉ x :: rest → W (mkp c) = c.k.wh + 20 + 4 * (c.k.offs.length : Int)
  xm : W (mkp x) ≠ 0
  mon : ∀ c ∈ rs, W0 (mkp c) ≠ 0 → W (mkp c) ≠ 0
  inP : ∀ c ∈ rs, W (mkp c) ≠ 0 → P c.r
  rt : ∀ c ∈ rs, c.r = root → W (mkp c) ≠ 0
  cnt : (cntM W rs : Int) = cntM W0 rs + cn

/-- the word at the table's place j -/
theorem Lay.tab (h : Lay O rs e) (hs : ∀ p, p < 256 → W p = O p) {c : Rc} (hc : c ∈ rs) {j : Nat} (hj : j ≤ c.k.offs.length) (hm : W (mkp c) = c.k.wh + 20 + 4 * (j : Int)) :
    (∃ o, c.k.offs[j]? = some o ∧ W (W (mkp c) / 4) = o ∧ o ≠ 4294967295 ∧ cur W c o) ∨ (j = c.k.offs.length ∧ W (W (mkp c) / 4) = 4294967295) := by
  have K := h.kind c hc
  have a1 := K.lo; have a2 := K.al; have a3 := K.hi; have a4 := K.len; have a5 := K.w1
  have ep : W (mkp c) / 4 = (c.k.wh + 20) / 4 + (j : Int) := by omega
  have el : W (W (mkp c) / 4) = O ((c.k.wh + 20) / 4 + (j : Int)) := by rw [ep]; exact hs _ (by omega)
  rcases Nat.lt_or_ge j c.k.offs.length with q | q
  · have hg := List.getElem?_eq_getElem q
    have := K.off j _ hg
    exact .inl ⟨_, hg, el.trans this.1, by omega, j, hg, hm⟩
  · have : j = c.k.offs.length := by omega
    subst this
    exact .inr ⟨rfl, el.trans K.fin⟩

section
variable {P : Int → Prop} {root cn h b : Int} {x : Rc} {rest : List Rc}
theorem DSW.low (hL : Lay O rs e) (D : DSW O W0 rs P root cn h b W x rest) : ∀ p, p < 256 → W p = O p := fun p hp =>
  D.same p (fun c hc => hL.lowmk hc hp) (fun c hc o q => hL.lowfp (D.stk.sub c hc).1 q.mem hp)
theorem DSW.hd (hL : Lay O rs e) (D : DSW O W0 rs P root cn h b W x rest) {c : Rc} (hc : c ∈ rs) : W ((c.r + -8) / 4) = c.k.wh :=
  (D.same _ (fun c' hc' => hL.hdmk hc hc') (fun c' hc' o q => hL.hdfp hc (D.stk.sub c' hc').1 q.mem)).trans (hL.head c hc)
theorem DSW.fldx (hL : Lay O rs e) (D : DSW O W0 rs P root cn h b W x rest) {o : Int} (ho : o ∈ x.k.offs) : W (fpl x o) = O (fpl x o) :=
  D.same _ (fun c' hc' => hL.mkfp hc' D.xin ho) (fun c' hc' o' q z => by
    have := (hL.fpinj D.xin (D.stk.sub c' hc').1 ho q.mem z).1
    subst this
    exact (List.nodup_cons.mp D.nd).1 hc')
theorem DSW.at (hL : Lay O rs e) (D : DSW O W0 rs P root cn h b W x rest) : ∃ j : Nat, j ≤ x.k.offs.length ∧ W (mkp x) = x.k.wh + 20 + 4 * (j : Int) := (D.mks x D.xin).resolve_left D.xm
theorem upd_eq (W : Int → Int) (k v : Int) : upd W k v k = v := by unfold upd; simp
theorem upd_ne (W : Int → Int) {k p : Int} (v : Int) (h : p ≠ k) : upd W k v p = W p := by unfold upd; simp [h]

theorem DSW.push (hL : Lay O rs e) (hPc : ∀ c ∈ rs, P c.r → ∀ o ∈ c.k.offs, ∀ c' ∈ rs, O (fpl c o) = c'.r → P c'.r) (D : DSW O W0 rs P root cn h b W x rest) {o : Int} (hc : cur W x o) {t : Rc} (ht : t ∈ rs) (hto : O (fpl x o) = t.r) (h0 : W (mkp t) = 0) :
    DSW O W0 rs P root (cn + 1) t.r h (upd (upd W (fpl x o) b) (mkp t) (t.k.wh + 20)) t (x :: rest) ∧ meas (upd (upd W (fpl x o) b) (mkp t) (t.k.wh + 20)) rs < meas W rs := by
  have hxt : x ≠ t := fun q => D.xm (q ▸ h0)
  have hsub := D.stk.sub
  have hrt : ∀ c ∈ rest, c ≠ t := fun c hc q => hL.cur_ne (hsub c hc).1 (hsub c hc).2.choose_spec (q ▸ h0)
  have hxr : ∀ c ∈ rest, c ≠ x := fun c hc q => (List.nodup_cons.mp D.nd).1 (q ▸ hc)
  have hlo := (hL.kind t ht).lo
  have emk : ∀ c ∈ rs, c ≠ t → upd (upd W (fpl x o) b) (mkp t) (t.k.wh + 20) (mkp c) = W (mkp c) := fun c hc' q => by
    rw [upd_ne _ _ (fun z => q (hL.mkinj hc' ht z)), upd_ne _ _ (Ne.symm (hL.mkfp hc' D.xin hc.mem))]
  have emt : upd (upd W (fpl x o) b) (mkp t) (t.k.wh + 20) (mkp t) = t.k.wh + 20 := upd_eq _ _ _
  have efp : ∀ c ∈ rest, c ∈ rs → ∀ o', cur W c o' → upd (upd W (fpl x o) b) (mkp t) (t.k.wh + 20) (fpl c o') = W (fpl c o') := fun c hc' hr o' q => by
    rw [upd_ne _ _ (hL.mkfp ht hr q.mem), upd_ne _ _ (fun z => hxr c hc' (hL.fpinj hr D.xin q.mem hc.mem z).1)]
  have efx : upd (upd W (fpl x o) b) (mkp t) (t.k.wh + 20) (fpl x o) = b := by
    rw [upd_ne _ _ (hL.mkfp ht D.xin hc.mem), upd_eq]
  have eother : ∀ p, p ≠ fpl x o → p ≠ mkp t → upd (upd W (fpl x o) b) (mkp t) (t.k.wh + 20) p = W p := fun p a q => by rw [upd_ne _ _ q, upd_ne _ _ a]
  generalize hW' : upd (upd W (fpl x o) b) (mkp t) (t.k.wh + 20) = W' at *
  have mk' : ∀ c ∈ rs, W (mkp c) ≠ 0 → W' (mkp c) ≠ 0 := fun c hc' q => by
    by_cases z : c = t
    · subst z; rw [emt]; omega
    · rw [emk c hc' z]; exact q
  refine ⟨⟨ht, rfl, ?_, ?_, fun p hp hr => ?_, fun c hc' => ?_, fun c hc' i j hm hij o' ho' c' hc'' hz => ?_, fun c hc' hm hn => ?_, by rw [emt]; omega, fun c hc' q => mk' c hc' (D.mon c hc' q), fun c hc' q => ?_, fun c hc' q => mk' c hc' (D.rt c hc' q), ?_⟩, ?_⟩
  · rw [List.nodup_cons]
    refine ⟨fun q => ?_, D.nd⟩
    rcases List.mem_cons.mp q with q | q
    · exact hxt q.symm
    · exact hrt t q rfl
  · refine ⟨D.xin, D.hx, o, hc.congr (emk x D.xin hxt), hto, ?_⟩
    rw [efx, ← D.hx]
    exact D.stk.frame (fun c hc' hr => emk c hr (hrt c hc')) efp
  · have n1 : p ≠ fpl x o := hr x (.head _) o (hc.congr (emk x D.xin hxt))
    rw [eother p n1 (hp t ht)]
    exact D.same p hp fun c hc' o' q => hr c (.tail _ hc') o' (q.congr (emk c (hsub c hc').1 (hrt c hc')))
  · by_cases z : c = t
    · subst z; exact .inr ⟨0, Nat.zero_le _, by rw [emt]; simp⟩
    · rw [emk c hc' z]; exact D.mks c hc'
  · refine mk' c' hc'' ?_
    by_cases z : c = t
    · subst z; rw [emt] at hm; omega
    · rw [emk c hc' z] at hm; exact D.done c hc' i j hm hij o' ho' c' hc'' hz
  · have z : c ≠ t := fun q => hn (q ▸ .head _)
    rw [emk c hc' z] at hm ⊢
    exact D.fin c hc' hm fun q => hn (.tail _ q)
  · by_cases z : c = t
    · subst z; exact hPc x D.xin (D.inP x D.xin D.xm) o hc.mem c hc' hto
    · rw [emk c hc' z] at q; exact D.inP c hc' q
  · have := cnt_one (W := W) (W' := W') (nodup_of_map hL.geo.nd) ht h0 (by rw [emt]; omega) emk
    have := D.cnt
    omega
  · refine sum_lt (fun c hc' => ?_) ⟨t, ht, ?_⟩
    · by_cases z : c = t
      · subst z; unfold wt; rw [emt, h0]; simp
      · unfold wt; rw [emk c hc' z]; exact Nat.le_refl _
    · unfold wt; rw [emt, h0, if_neg (by omega)]; simp

theorem DSW.skip (hL : Lay O rs e) (D : DSW O W0 rs P root cn h b W x rest) {j : Nat} {o : Int} (ho : x.k.offs[j]? = some o) (hm : W (mkp x) = x.k.wh + 20 + 4 * (j : Int)) (hn : ∀ c' ∈ rs, O (fpl x o) = c'.r → W (mkp c') ≠ 0) :
    DSW O W0 rs P root cn h b (upd W (mkp x) (x.k.wh + 20 + 4 * (j : Int) + 4)) x rest ∧ meas (upd W (mkp x) (x.k.wh + 20 + 4 * (j : Int) + 4)) rs < meas W rs := by
  have hsub := D.stk.sub
  have hxr : ∀ c ∈ rest, c ≠ x := fun c hc q => (List.nodup_cons.mp D.nd).1 (q ▸ hc)
  have hlo := (hL.kind x D.xin).lo
  have hj : j < x.k.offs.length := by
    rcases Nat.lt_or_ge j x.k.offs.length with q | q
    · exact q
    · rw [List.getElem?_eq_none q] at ho; cases ho
  have emk : ∀ c ∈ rs, c ≠ x → upd W (mkp x) (x.k.wh + 20 + 4 * (j : Int) + 4) (mkp c) = W (mkp c) := fun c hc' q => upd_ne _ _ (fun z => q (hL.mkinj hc' D.xin z))
  have emx : upd W (mkp x) (x.k.wh + 20 + 4 * (j : Int) + 4) (mkp x) = x.k.wh + 20 + 4 * (j : Int) + 4 := upd_eq _ _ _
  have eother : ∀ p, p ≠ mkp x → upd W (mkp x) (x.k.wh + 20 + 4 * (j : Int) + 4) p = W p := fun p a => upd_ne _ _ a
  generalize hW' : upd W (mkp x) (x.k.wh + 20 + 4 * (j : Int) + 4) = W' at *
  have mk' : ∀ c ∈ rs, W (mkp c) ≠ 0 → W' (mkp c) ≠ 0 := fun c hc' q => by
    by_cases z : c = x
    · subst z; rw [emx]; omega
    · rw [emk c hc' z]; exact q
  have mk'' : ∀ c ∈ rs, W' (mkp c) ≠ 0 → W (mkp c) ≠ 0 := fun c hc' q => by
    by_cases z : c = x
    · subst z; exact D.xm
    · rw [emk c hc' z] at q; exact q
  refine ⟨⟨D.xin, D.hx, D.nd, D.stk.frame (fun c hc hr => emk c hr (hxr c hc)) (fun c hc hr o' q => eother _ (hL.mkfp D.xin hr q.mem)), fun p hp hr => ?_, fun c hc' => ?_, fun c hc' i j' hm' hij o' ho' c' hc'' hz => mk' c' hc'' ?_, fun c hc' hm' hn' => ?_, by rw [emx]; omega, fun c hc' q => mk' c hc' (D.mon c hc' q), fun c hc' q => D.inP c hc' (mk'' c hc' q), fun c hc' q => mk' c hc' (D.rt c hc' q), ?_⟩, ?_⟩
  · rw [eother p (hp x D.xin)]
    exact D.same p hp fun c hc' o' q => hr c hc' o' (q.congr (emk c (hsub c hc').1 (hxr c hc')))
  · by_cases z : c = x
    · subst z; exact .inr ⟨j + 1, hj, by rw [emx]; omega⟩
    · rw [emk c hc' z]; exact D.mks c hc'
  · by_cases z : c = x
    · subst z
      rw [emx] at hm'
      by_cases w : i = j
      · subst w
        rw [ho] at ho'; cases ho'
        exact hn c' hc'' hz
      · exact D.done c hc' i j hm (by omega) o' ho' c' hc'' hz
    · rw [emk c hc' z] at hm'; exact D.done c hc' i j' hm' hij o' ho' c' hc'' hz
  · have z : c ≠ x := fun q => hn' (q ▸ .head _)
    rw [emk c hc' z] at hm' ⊢
    exact D.fin c hc' hm' hn'
  · have := cnt_same (W := W) (W' := W') (l := rs) fun c hc => ⟨mk'' c hc, mk' c hc⟩
    have := D.cnt
    omega
  · refine sum_lt (fun c hc' => ?_) ⟨x, D.xin, ?_⟩
    · by_cases z : c = x
      · subst z; unfold wt; rw [emx, hm, if_neg (by omega), if_neg (by omega)]; omega
      · unfold wt; rw [emk c hc' z]; exact Nat.le_refl _
    · unfold wt; rw [emx, hm, if_neg (by omega), if_neg (by omega)]; omega

theorem DSW.pop (hL : Lay O rs e) {c₁ : Rc} {r : List Rc} (D : DSW O W0 rs P root cn h b W x (c₁ :: r)) {j : Nat} {o : Int} (hxf : W (mkp x) = x.k.wh + 20 + 4 * (x.k.offs.length : Int)) (ho : c₁.k.offs[j]? = some o) (hm : W (mkp c₁) = c₁.k.wh + 20 + 4 * (j : Int)) :
    DSW O W0 rs P root cn b (W (fpl c₁ o)) (upd (upd W (fpl c₁ o) h) (mkp c₁) (c₁.k.wh + 20 + 4 * (j : Int) + 4)) c₁ r ∧ meas (upd (upd W (fpl c₁ o) h) (mkp c₁) (c₁.k.wh + 20 + 4 * (j : Int) + 4)) rs < meas W rs := by
  have hsub := D.stk.sub
  obtain ⟨hcin, hb, o₁, hcur, hO, hst⟩ := D.stk
  have hcur' : cur W c₁ o := ⟨j, ho, hm⟩
  have := hcur.fn hcur'
  subst this
  have n0 := List.nodup_cons.mp D.nd
  have n1 := List.nodup_cons.mp n0.2
  have hxc : x ≠ c₁ := fun q => n0.1 (q ▸ .head _)
  have hxr : ∀ c ∈ r, c ≠ c₁ := fun c hc q => n1.1 (q ▸ hc)
  have hlo := (hL.kind c₁ hcin).lo
  have hj : j < c₁.k.offs.length := by
    rcases Nat.lt_or_ge j c₁.k.offs.length with q | q
    · exact q
    · rw [List.getElem?_eq_none q] at ho; cases ho
  have emk : ∀ c ∈ rs, c ≠ c₁ → upd (upd W (fpl c₁ o₁) h) (mkp c₁) (c₁.k.wh + 20 + 4 * (j : Int) + 4) (mkp c) = W (mkp c) := fun c hc' q => by
    rw [upd_ne _ _ (fun z => q (hL.mkinj hc' hcin z)), upd_ne _ _ (Ne.symm (hL.mkfp hc' hcin hcur.mem))]
  have emx : upd (upd W (fpl c₁ o₁) h) (mkp c₁) (c₁.k.wh + 20 + 4 * (j : Int) + 4) (mkp c₁) = c₁.k.wh + 20 + 4 * (j : Int) + 4 := upd_eq _ _ _
  have efx : upd (upd W (fpl c₁ o₁) h) (mkp c₁) (c₁.k.wh + 20 + 4 * (j : Int) + 4) (fpl c₁ o₁) = h := by
    rw [upd_ne _ _ (hL.mkfp hcin hcin hcur.mem), upd_eq]
  have efp : ∀ c ∈ r, c ∈ rs → ∀ o', cur W c o' → upd (upd W (fpl c₁ o₁) h) (mkp c₁) (c₁.k.wh + 20 + 4 * (j : Int) + 4) (fpl c o') = W (fpl c o') := fun c hc' hr o' q => by
    rw [upd_ne _ _ (hL.mkfp hcin hr q.mem), upd_ne _ _ (fun z => hxr c hc' (hL.fpinj hr hcin q.mem hcur.mem z).1)]
  have eother : ∀ p, p ≠ fpl c₁ o₁ → p ≠ mkp c₁ → upd (upd W (fpl c₁ o₁) h) (mkp c₁) (c₁.k.wh + 20 + 4 * (j : Int) + 4) p = W p := fun p a q => by rw [upd_ne _ _ q, upd_ne _ _ a]
  generalize hW' : upd (upd W (fpl c₁ o₁) h) (mkp c₁) (c₁.k.wh + 20 + 4 * (j : Int) + 4) = W' at *
  have mk' : ∀ c ∈ rs, W (mkp c) ≠ 0 → W' (mkp c) ≠ 0 := fun c hc' q => by
    by_cases z : c = c₁
    · subst z; rw [emx]; omega
    · rw [emk c hc' z]; exact q
  have hcm : W (mkp c₁) ≠ 0 := by omega
  have mk'' : ∀ c ∈ rs, W' (mkp c) ≠ 0 → W (mkp c) ≠ 0 := fun c hc' q => by
    by_cases z : c = c₁
    · subst z; exact hcm
    · rw [emk c hc' z] at q; exact q
  refine ⟨⟨hcin, hb, n0.2, ?_, fun p hp hr => ?_, fun c hc' => ?_, fun c hc' i j' hm' hij o' ho' c' hc'' hz => mk' c' hc'' ?_, fun c hc' hm' hn' => ?_, by rw [emx]; omega, fun c hc' q => mk' c hc' (D.mon c hc' q), fun c hc' q => D.inP c hc' (mk'' c hc' q), fun c hc' q => mk' c hc' (D.rt c hc' q), ?_⟩, ?_⟩
  · rw [hb]; exact hst.frame (fun c hc hr => emk c hr (hxr c hc)) efp
  · by_cases z : p = fpl c₁ o₁
    · subst z; rw [efx, hO]
    · rw [eother p z (hp c₁ hcin)]
      refine D.same p hp fun c hc' o' q => ?_
      rcases List.mem_cons.mp hc' with rfl | hc'
      · rw [q.fn hcur]; exact z
      · exact hr c hc' o' (q.congr (emk c (hsub c (.tail _ hc')).1 (hxr c hc')))
  · by_cases z : c = c₁
    · subst z; exact .inr ⟨j + 1, hj, by rw [emx]; omega⟩
    · rw [emk c hc' z]; exact D.mks c hc'
  · by_cases z : c = c₁
    · subst z
      rw [emx] at hm'
      by_cases w : i = j
      · subst w
        rw [ho] at ho'; cases ho'
        have : x = c' := hL.rinj D.xin hc'' (by rw [← hz, hO, D.hx])
        subst this
        exact D.xm
      · exact D.done c hc' i j hm (by omega) o' ho' c' hc'' hz
    · rw [emk c hc' z] at hm'; exact D.done c hc' i j' hm' hij o' ho' c' hc'' hz
  · have z : c ≠ c₁ := fun q => hn' (q ▸ .head _)
    rw [emk c hc' z] at hm' ⊢
    by_cases w : c = x
    · subst w; exact hxf
    · exact D.fin c hc' hm' fun q => by
        rcases List.mem_cons.mp q with q | q
        · exact w q
        · exact hn' q
  · have := cnt_same (W := W) (W' := W') (l := rs) fun c hc => ⟨mk'' c hc, mk' c hc⟩
    have := D.cnt
    omega
  · refine sum_lt (fun c hc' => ?_) ⟨c₁, hcin, ?_⟩
    · by_cases z : c = c₁
      · subst z; unfold wt; rw [emx, hm, if_neg (by omega), if_neg (by omega)]; omega
      · unfold wt; rw [emk c hc' z]; exact Nat.le_refl _
    · unfold wt; rw [emx, hm, if_neg (by omega), if_neg (by omega)]; omega
end
end


example : True := by (w_top off); trivial
inductive Rch (O : Int → Int) (rs : List Rc) (ons : List Int) : Int → Prop
  | root {x : Int} {c : Rc} : x ∈ ons → c ∈ rs → hit c x → Rch O rs ons c.r
  | step {c : Rc} {o : Int} : c ∈ rs → Rch O rs ons c.r → o ∈ c.k.offs → O ((c.r + o) / 4) ∈ rs.map (·.r) → Rch O rs ons (O ((c.r + o) / 4))

structure MEnd (O W0 : Int → Int) (rs : List Rc) (P : Int → Prop) (root c : Int) (W : Int → Int) : Prop where
  st : MSt O W rs
  cnt : (cntM W rs : Int) = cntM W0 rs + c
  mon : ∀ c ∈ rs, W0 (mkp c) ≠ 0 → W (mkp c) ≠ 0
  inP : ∀ c ∈ rs, W (mkp c) ≠ 0 → P c.r
  rt : ∀ c ∈ rs, c.r = root → W (mkp c) ≠ 0
def MInv (O W0 : Int → Int) (rs : List Rc) (P : Int → Prop) (root : Int) (k : Nat) (cn h b : Int) (W : Int → Int) : Prop := k = meas W rs ∧ ∃ x rest, DSW O W0 rs P root cn h b W x rest

section
variable {O W W' W0 : Int → Int} {rs : List Rc} {e : Int} {P : Int → Prop} {root cn h b : Int} {x : Rc} {rest : List Rc}
theorem DSW.start (hL : Lay O rs e) (hM : MSt O W0 rs) {x : Rc} (hx : x ∈ rs) (h0 : W0 (mkp x) = 0) (hP : P x.r) (hin : ∀ c ∈ rs, W0 (mkp c) ≠ 0 → P c.r) :
    DSW O W0 rs P x.r 1 x.r 0 (upd W0 (mkp x) (x.k.wh + 20)) x [] := by
  have hlo := (hL.kind x hx).lo
  have emk : ∀ c ∈ rs, c ≠ x → upd W0 (mkp x) (x.k.wh + 20) (mkp c) = W0 (mkp c) := fun c hc q => upd_ne _ _ (fun z => q (hL.mkinj hc hx z))
  have emx : upd W0 (mkp x) (x.k.wh + 20) (mkp x) = x.k.wh + 20 := upd_eq _ _ _
  have eo : ∀ p, p ≠ mkp x → upd W0 (mkp x) (x.k.wh + 20) p = W0 p := fun p a => upd_ne _ _ a
  generalize hW' : upd W0 (mkp x) (x.k.wh + 20) = W at *
  have mk' : ∀ c ∈ rs, W0 (mkp c) ≠ 0 → W (mkp c) ≠ 0 := fun c hc q => by
    by_cases z : c = x
    · subst z; rw [emx]; omega
    · rw [emk c hc z]; exact q
  refine ⟨hx, rfl, by simp, rfl, fun p hp _ => ?_, fun c hc => ?_, fun c hc i j hm hij o ho c' hc' hz => ?_, fun c hc hm hn => ?_, by rw [emx]; omega, mk', fun c hc q => ?_, fun c hc q => ?_, ?_⟩
  · rw [eo p (hp x hx)]; exact hM.same p hp
  · by_cases z : c = x
    · subst z; exact .inr ⟨0, Nat.zero_le _, by rw [emx]; simp⟩
    · rw [emk c hc z]
      rcases hM.mks c hc with q | q
      · exact .inl q
      · exact .inr ⟨_, Nat.le_refl _, q⟩
  · by_cases z : c = x
    · subst z; rw [emx] at hm; omega
    · rw [emk c hc z] at hm
      have hc0 : W0 (mkp c) ≠ 0 := by have := (hL.kind c hc).lo; omega
      exact mk' c' hc' (hM.clo c hc hc0 o (List.mem_of_getElem? ho) c' hc' hz)
  · have z : c ≠ x := fun q => hn (q ▸ .head _)
    rw [emk c hc z] at hm ⊢
    exact (hM.mks c hc).resolve_left hm
  · by_cases z : c = x
    · subst z; exact hP
    · rw [emk c hc z] at q; exact hin c hc q
  · rw [hL.rinj hc hx q, emx]; omega
  · have := cnt_one (W := W0) (W' := W) (nodup_of_map hL.geo.nd) hx h0 (by rw [emx]; omega) emk
    omega

theorem DSW.fini (hL : Lay O rs e) (D : DSW O W0 rs P root cn h 0 W x rest) (hxf : W (mkp x) = x.k.wh + 20 + 4 * (x.k.offs.length : Int)) : MEnd O W0 rs P root cn W := by
  have hr : rest = [] := by
    cases hq : rest with
    | nil => rfl
    | cons c r =>
      have := D.stk
      rw [hq] at this
      obtain ⟨h1, h2, _⟩ := this
      have := hL.lim h1
      omega
  subst hr
  have full : ∀ c ∈ rs, W (mkp c) ≠ 0 → W (mkp c) = c.k.wh + 20 + 4 * (c.k.offs.length : Int) := fun c hc hm => by
    by_cases z : c = x
    · subst z; exact hxf
    · exact D.fin c hc hm (fun q => z (List.mem_singleton.mp q))
  refine ⟨⟨fun p hp => D.same p hp (fun c hc => nomatch hc), fun c hc => ?_, fun c hc hm o ho c' hc' hz => ?_⟩, D.cnt, D.mon, D.inP, D.rt⟩
  · by_cases q : W (mkp c) = 0
    · exact .inl q
    · exact .inr (full c hc q)
  · obtain ⟨i, hi⟩ := List.getElem?_of_mem ho
    refine D.done c hc i _ (full c hc hm) ?_ o hi c' hc' hz
    rcases Nat.lt_or_ge i c.k.offs.length with q | q
    · exact q
    · rw [List.getElem?_eq_none q] at hi; cases hi

/-- the table's word where a record stands -/
theorem Lay.curw (hL : Lay O rs e) (hs : ∀ p, p < 256 → W p = O p) {c : Rc} (hc : c ∈ rs) {o : Int} {j : Nat} (ho : c.k.offs[j]? = some o) (hm : W (mkp c) = c.k.wh + 20 + 4 * (j : Int)) : W (W (mkp c) / 4) = o := by
  have hj : j < c.k.offs.length := by
    rcases Nat.lt_or_ge j c.k.offs.length with q | q
    · exact q
    · rw [List.getElem?_eq_none q] at ho; cases ho
  rcases hL.tab hs hc (Nat.le_of_lt hj) hm with ⟨o', a, b, _⟩ | ⟨a, _⟩
  · rw [ho] at a; cases a; exact b
  · omega
theorem DSW.tabx (hL : Lay O rs e) (D : DSW O W0 rs P root cn h b W x rest) (hne : W (W (mkp x) / 4) ≠ 4294967295) :
    ∃ (o : Int) (j : Nat), W (W (mkp x) / 4) = o ∧ x.k.offs[j]? = some o ∧ W (mkp x) = x.k.wh + 20 + 4 * (j : Int) ∧ W (fpl x o) = O (fpl x o) ∧ o % 4 = 0 ∧ 0 ≤ o ∧ o + 4 ≤ x.k.wide ∧ j ≤ 11 := by
  obtain ⟨j, hj, hm⟩ := D.at hL
  rcases hL.tab (D.low hL) D.xin hj hm with ⟨o, a, c, _, d⟩ | ⟨_, a⟩
  · have := hL.offb D.xin d.mem
    have := (hL.kind x D.xin).len
    exact ⟨o, j, c, a, hm, D.fldx hL d.mem, by omega, by omega, by omega, by omega⟩
  · exact absurd a hne
theorem DSW.fullx (hL : Lay O rs e) (D : DSW O W0 rs P root cn h b W x rest) (heq : W (W (mkp x) / 4) = 4294967295) : W (mkp x) = x.k.wh + 20 + 4 * (x.k.offs.length : Int) := by
  obtain ⟨j, hj, hm⟩ := D.at hL
  rcases hL.tab (D.low hL) D.xin hj hm with ⟨o, _, c, d, _⟩ | ⟨a, _⟩
  · exact absurd (c.symm.trans heq) d
  · rw [← a]; exact hm
theorem DSW.backx (hL : Lay O rs e) (D : DSW O W0 rs P root cn h b W x rest) (hb : b ≠ 0) :
    ∃ c r, rest = c :: r ∧ c ∈ rs ∧ b = c.r ∧ ∃ (o : Int) (j : Nat), c.k.offs[j]? = some o ∧ W (mkp c) = c.k.wh + 20 + 4 * (j : Int) ∧ W (W (mkp c) / 4) = o ∧ 0 ≤ o ∧ o + 4 ≤ c.k.wide ∧ j ≤ 11 := by
  cases hq : rest with
  | nil =>
    have := D.stk
    rw [hq] at this
    exact absurd this hb
  | cons c r =>
    have := D.stk
    rw [hq] at this
    obtain ⟨h1, h2, o, ⟨j, h3, h4⟩, h5, h6⟩ := this
    have hj : j < c.k.offs.length := by
      rcases Nat.lt_or_ge j c.k.offs.length with q | q
      · exact q
      · rw [List.getElem?_eq_none q] at h3; cases h3
    have := hL.offb h1 (List.mem_of_getElem? h3)
    have := (hL.kind c h1).len
    exact ⟨c, r, rfl, h1, h2, o, j, h3, h4, hL.curw (D.low hL) h1 h3 h4, by omega, by omega, by omega⟩

theorem markInv (hL : Lay O rs e) (hM : MSt O W0 rs) (hPc : ∀ c ∈ rs, P c.r → ∀ o ∈ c.k.offs, ∀ c' ∈ rs, O (fpl c o) = c'.r → P c'.r) (hin : ∀ c ∈ rs, W0 (mkp c) ≠ 0 → P c.r) {x : Rc} (hx : x ∈ rs) (hP : P x.r) :
    MarkInv x.r W0 (MInv O W0 rs P x.r) (MEnd O W0 rs P x.r) := by
  have hl := hL.lim hx
  have hk := hL.kind x hx
  have k1 := hk.lo; have k2 := hk.hi
  refine ⟨fun _ _ h0 => ?_, fun hn => ?_, ?_, ?_, ?_, ?_, ?_, ?_, ?_⟩
  · have e1 : (W0 ((x.r + -8) / 4) + 20) % 4294967296 = x.k.wh + 20 := by
      rw [hM.same _ (fun c hc => hL.hdmk hx hc), hL.head x hx]; omega
    rw [e1]
    exact ⟨_, rfl, x, [], DSW.start hL hM hx h0 hP hin⟩
  · have h0 : W0 (mkp x) ≠ 0 := fun q => hn ⟨by omega, by omega, q⟩
    exact ⟨hM, by omega, fun _ _ q => q, hin, fun c hc q => by rw [hL.rinj hc hx q]; exact h0⟩
  · rintro k c h b W ⟨_, y, rest, D⟩
    have := D.hx
    subst this
    obtain ⟨j, hj, hm⟩ := D.at hL
    replace hm : W ((y.r + -4) / 4) = y.k.wh + 20 + 4 * (j : Int) := hm
    have := hL.lim D.xin
    have a1 := (hL.kind y D.xin).lo
    have a2 := (hL.kind y D.xin).hi
    have a3 := (hL.kind y D.xin).len
    omega
  · rintro k c h b W ⟨_, y, rest, D⟩ hne
    have := D.hx
    subst this
    obtain ⟨o, j, e1, _, _, _, _, a1, a2, _⟩ := D.tabx hL hne
    replace e1 : W (W ((y.r + -4) / 4) / 4) = o := e1
    rw [e1]
    have := hL.lim D.xin
    have := (hL.kind y D.xin).w1
    omega
  · rintro k c h b W t ⟨rfl, y, rest, D⟩ hne ht t0 t1 ht0
    have := D.hx
    subst this
    obtain ⟨o, j, e1, ho, hm, ef, a0, a1, a2, _⟩ := D.tabx hL hne
    replace e1 : W (W ((y.r + -4) / 4) / 4) = o := e1
    have hcur : cur W y o := ⟨j, ho, hm⟩
    rw [e1] at ht
    replace ht : t = O (fpl y o) := ht.trans ef
    have hf := hL.fld D.xin hcur.mem
    rw [← ht] at hf
    have hb : b % 4294967296 = b := by
      rcases hL.stk_b D.stk with q | q <;> omega
    rcases hf with q | q | q | q | ⟨c', hc', q⟩
    · omega
    · omega
    · omega
    · omega
    · subst q
      rw [e1, hb]
      have eh : (upd W ((y.r + o) / 4) b ((c'.r + -8) / 4) + 20) % 4294967296 = c'.k.wh + 20 := by
        have e3 : upd W ((y.r + o) / 4) b ((c'.r + -8) / 4) = W ((c'.r + -8) / 4) := upd_ne _ _ (hL.hdfp hc' D.xin hcur.mem)
        rw [e3, D.hd hL hc']
        have a1 := (hL.kind c' hc').lo
        have a2 := (hL.kind c' hc').hi
        omega
      rw [eh]
      obtain ⟨D', lt⟩ := D.push hL hPc hcur hc' ht.symm ht0
      exact ⟨_, lt, rfl, c', y :: rest, D'⟩
  · rintro k c h b W t ⟨rfl, y, rest, D⟩ hne ht hn
    have := D.hx
    subst this
    obtain ⟨o, j, e1, ho, hm, ef, a0, a1, a2, hj⟩ := D.tabx hL hne
    replace e1 : W (W ((y.r + -4) / 4) / 4) = o := e1
    rw [e1] at ht
    replace ht : t = O (fpl y o) := ht.trans ef
    have b1 := (hL.kind y D.xin).lo
    have b2 := (hL.kind y D.xin).hi
    have e2 : (W ((y.r + -4) / 4) + 4) % 4294967296 = y.k.wh + 20 + 4 * (j : Int) + 4 := by
      have hm' : W ((y.r + -4) / 4) = y.k.wh + 20 + 4 * (j : Int) := hm
      omega
    rw [e2]
    obtain ⟨D', lt⟩ := D.skip hL ho hm (fun c' hc' q z => by
      have := hL.lim hc'
      have q' : t = c'.r := ht.trans q
      subst q'
      exact hn ⟨by omega, by omega, z⟩)
    exact ⟨_, lt, rfl, y, rest, D'⟩
  · rintro k c h b W ⟨_, y, rest, D⟩ heq hb
    have := D.hx
    subst this; subst hb
    exact D.fini hL (D.fullx hL heq)
  · rintro k c h b W ⟨_, y, rest, D⟩ heq hb
    obtain ⟨c₁, r, rfl, hc, rfl, o, j, ho, hm, e1, a1, a2, hj⟩ := D.backx hL hb
    replace e1 : W (W ((c₁.r + -4) / 4) / 4) = o := e1
    replace hm : W ((c₁.r + -4) / 4) = c₁.k.wh + 20 + 4 * (j : Int) := hm
    rw [e1]
    have := hL.lim hc
    have b1 := (hL.kind c₁ hc).lo
    have b2 := (hL.kind c₁ hc).hi
    have b3 := (hL.kind c₁ hc).w1
    omega
  · rintro k c h b W ⟨rfl, y, rest, D⟩ heq hb
    have hh := D.hx
    subst hh
    obtain ⟨c₁, r, rfl, hc, rfl, o, j, ho, hm, e1, a1, a2, hj⟩ := D.backx hL hb
    obtain ⟨D', lt⟩ := D.pop hL (D.fullx hL heq) ho hm
    replace e1 : W (W ((c₁.r + -4) / 4) / 4) = o := e1
    replace hm : W ((c₁.r + -4) / 4) = c₁.k.wh + 20 + 4 * (j : Int) := hm
    rw [e1, hm]
    have b1 := (hL.kind c₁ hc).lo
    have b2 := (hL.kind c₁ hc).hi
    have hl := hL.lim D.xin
    have e2 : (c₁.k.wh + 20 + 4 * (j : Int) + 4) % 4294967296 = c₁.k.wh + 20 + 4 * (j : Int) + 4 := by omega
    have e3 : y.r % 4294967296 = y.r := by omega
    rw [e2, e3]
    exact ⟨_, lt, rfl, c₁, r, D'⟩
end

def BPost (rs : List Rc) (x v : Int) : Prop := (v = 0 ∧ ∀ c ∈ rs, ¬ hit c x) ∨ ∃ c ∈ rs, v = c.r ∧ hit c x
def BInv (rs : List Rc) (e x : Int) (k : Nat) (b : Int) : Prop := ∃ pre suf, rs = pre ++ suf ∧ Chain b suf e ∧ k = suf.length ∧ b ≤ x ∧ 1024 ≤ x ∧ x < 1504 ∧ 0 ≤ b

section
variable {O W W' W0 : Int → Int} {rs : List Rc} {e : Int}
theorem blockInv (hL : Lay O rs e) (hs : ∀ p, (∀ c ∈ rs, p ≠ mkp c) → W p = O p) (x : Int) : BlockInv W x (BInv rs e x) (BPost rs x) := by
  have G := hL.geo
  have he := hL.hi
  have hea := G.ea
  have hhd : ∀ c ∈ rs, W ((c.r + -8) / 4) = c.k.wh := fun c hc => (hs _ (fun c' hc' => hL.hdmk hc hc')).trans (hL.head c hc)
  have hwd : ∀ c ∈ rs, W (c.k.wh / 4) = c.k.wide := fun c hc => (hs _ (fun c' hc' => hL.lowmk hc' (by have := (hL.kind c hc).hi; omega))).trans (hL.kind c hc).wide
  have hfr : e < 1504 → W (e / 4) = 1504 - e + 1 := fun q => (hs _ (fun c hc => by
    have a := G.hi c hc
    have b := bsz_facts (hL.kind c hc).w0
    have d := G.al c hc
    unfold mkp; omega)).trans (hL.free q)
  have hsz : ∀ c ∈ rs, ∀ b, c.r = b + 8 → W (b / 4) = c.k.wh ∧ szW W b = bsz c.k.wide ∧ c.k.wh % 4 = 0 := fun c hc b q => by
    have e1 : b / 4 = (c.r + -8) / 4 := by omega
    have al := (hL.kind c hc).al
    have e2 : W (b / 4) = c.k.wh := by rw [e1]; exact hhd c hc
    refine ⟨e2, ?_, al⟩
    unfold szW
    rw [e2, if_neg (by omega), hwd c hc]
  refine ⟨fun hx => .inl ⟨rfl, fun c hc hh => ?_⟩, fun h0 h1 => ⟨_, [], rs, rfl, hL.chain, rfl, h0, h0, h1, by decide⟩, ?_, ?_, ?_, ?_, ?_⟩
  · have a := G.lo c hc
    have b := G.hi c hc
    obtain ⟨h1, h2⟩ := hh
    omega
  · rintro k b ⟨pre, suf, hrs, hch, rfl, hbx, x0, x1, hb0⟩ hb
    refine ⟨hb0, fun hev => ?_⟩
    cases suf with
    | nil =>
      have hch' : b = e := hch
      subst hch'
      rw [hfr hb] at hev
      omega
    | cons c r =>
      obtain ⟨h1, h2⟩ := hch
      have hc : c ∈ rs := by rw [hrs]; simp
      obtain ⟨e1, e2, e3⟩ := hsz c hc b h1
      have K := hL.kind c hc
      have k1 := K.lo; have k2 := K.hi; have k3 := K.w0; have k4 := K.w1
      rw [e1, hwd c hc]
      omega
  · rintro k b ⟨pre, suf, hrs, hch, rfl, hbx, x0, x1, hb0⟩ hb hlt hor
    refine .inl ⟨rfl, fun c' hc' hh => ?_⟩
    obtain ⟨g1, g2⟩ := hh
    cases suf with
    | nil =>
      have hch' : b = e := hch
      subst hch'
      have := G.hi c' hc'
      omega
    | cons c r =>
      obtain ⟨h1, h2⟩ := hch
      have hc : c ∈ rs := by rw [hrs]; simp
      obtain ⟨e1, e2, e3⟩ := hsz c hc b h1
      rw [e1] at hor
      have f' := bsz_facts (hL.kind c' hc').w0
      have f := bsz_facts (hL.kind c hc).w0
      rcases G.dj c hc c' hc' with q | q | q
      · subst q; omega
      · omega
      · omega
  · rintro k b ⟨pre, suf, hrs, hch, rfl, hbx, x0, x1, hb0⟩ hb hlt hev hge
    cases suf with
    | nil =>
      have hch' : b = e := hch
      subst hch'
      rw [hfr hb] at hev
      omega
    | cons c r =>
      obtain ⟨h1, h2⟩ := hch
      have hc : c ∈ rs := by rw [hrs]; simp
      obtain ⟨e1, e2, e3⟩ := hsz c hc b h1
      rw [e2] at hlt
      exact .inr ⟨c, hc, h1.symm, by omega, by omega⟩
  · rintro k b ⟨pre, suf, hrs, hch, rfl, hbx, x0, x1, hb0⟩ hb hge
    cases suf with
    | nil =>
      have hch' : b = e := hch
      subst hch'
      have : szW W b = 1504 - b := by
        unfold szW
        rw [hfr hb, if_pos (by omega)]; omega
      rw [this] at hge
      omega
    | cons c r =>
      obtain ⟨h1, h2⟩ := hch
      have hc : c ∈ rs := by rw [hrs]; simp
      obtain ⟨e1, e2, e3⟩ := hsz c hc b h1
      have f := bsz_facts (hL.kind c hc).w0
      rw [e2] at hge ⊢
      exact ⟨r.length, by simp, pre ++ [c], r, by rw [hrs]; simp, h2, rfl, by omega, x0, x1, by omega⟩
  · rintro k b ⟨pre, suf, hrs, hch, rfl, hbx, x0, x1, hb0⟩ hb
    omega
end

structure RSt (O : Int → Int) (rs : List Rc) (ons : List Int) (i : Nat) (cn : Int) (W : Int → Int) : Prop where
  st : MSt O W rs
  cnt : (cntM W rs : Int) = cn
  got : ∀ (j : Nat) x, j < i → ons[j]? = some x → ∀ c ∈ rs, hit c x → W (mkp c) ≠ 0
  inP : ∀ c ∈ rs, W (mkp c) ≠ 0 → Rch O rs ons c.r

section
variable {O W W' W0 : Int → Int} {rs : List Rc} {e : Int} {ons : List Int}
theorem Lay.hit1 (hL : Lay O rs e) {c c' : Rc} (hc : c ∈ rs) (hc' : c' ∈ rs) {x : Int} (a : hit c x) (b : hit c' x) : c = c' := by
  obtain ⟨a1, a2⟩ := a
  obtain ⟨b1, b2⟩ := b
  rcases hL.geo.dj c hc c' hc' with q | q | q
  · exact q
  · omega
  · omega
theorem cnt_zero : ∀ {l : List Rc}, (∀ c ∈ l, W (mkp c) = 0) → cntM W l = 0 := by
  intro l h
  unfold cntM
  rw [List.countP_eq_zero]
  intro c hc
  simp [h c hc]
theorem rootInv (hL : Lay O rs e) (h0 : ∀ c ∈ rs, O (mkp c) = 0) : RootInv ons O (RSt O rs ons) := by
  have hPc : ∀ c ∈ rs, Rch O rs ons c.r → ∀ o ∈ c.k.offs, ∀ c' ∈ rs, O (fpl c o) = c'.r → Rch O rs ons c'.r := fun c hc hr o ho c' hc' q => by
    have q' : O ((c.r + o) / 4) = c'.r := q
    have := Rch.step hc hr ho (by rw [q']; exact List.mem_map_of_mem hc')
    rwa [q'] at this
  refine ⟨⟨⟨fun _ _ => rfl, fun c hc => .inl (h0 c hc), fun c hc q => absurd (h0 c hc) q⟩, by rw [cnt_zero h0]; rfl, fun j x h => absurd h (Nat.not_lt_zero _), fun c hc q => absurd (h0 c hc) q⟩, ?_⟩
  intro i cn W x I hx
  refine ⟨_, _, blockInv hL I.st.same x, fun b hb => ⟨fun hz => ?_, fun hne => ?_⟩⟩
  · subst hz
    refine ⟨I.st, I.cnt, ?_, I.inP⟩
    refine upto_succ (p := fun x => ∀ c ∈ rs, hit c x → W (mkp c) ≠ 0) I.got hx ?_
    rcases hb with ⟨_, hn⟩ | ⟨c, hc, q, _⟩
    · exact fun c hc hh => absurd hh (hn c hc)
    · have := hL.lim hc; omega
  · rcases hb with ⟨q, _⟩ | ⟨c, hc, rfl, hh⟩
    · exact absurd q hne
    · refine ⟨_, _, markInv hL I.st hPc I.inP hc (Rch.root (List.mem_of_getElem? hx) hc hh), fun c' W' M => ⟨M.st, by have := M.cnt; have := I.cnt; omega, ?_, M.inP⟩⟩
      refine upto_succ (p := fun x => ∀ c ∈ rs, hit c x → W' (mkp c) ≠ 0) (fun j y a b c d f => M.mon c d (I.got j y a b c d f)) hx fun c₂ hc₂ hh₂ => ?_
      exact M.rt c₂ hc₂ (by rw [hL.hit1 hc₂ hc hh₂ hh])
theorem RSt.all (hL : Lay O rs e) {cn : Int} (R : RSt O rs ons ons.length cn W) : ∀ c ∈ rs, (W (mkp c) ≠ 0 ↔ Rch O rs ons c.r) := by
  have key : ∀ y, Rch O rs ons y → ∀ c ∈ rs, c.r = y → W (mkp c) ≠ 0 := by
    intro y hy
    induction hy with
    | root hx hc hh =>
      rename_i x c
      intro c' hc' q
      rw [hL.rinj hc' hc q]
      obtain ⟨j, hj⟩ := List.getElem?_of_mem hx
      refine R.got j x ?_ hj c hc hh
      rcases Nat.lt_or_ge j ons.length with z | z
      · exact z
      · rw [List.getElem?_eq_none z] at hj; cases hj
    | step hc _ ho hin ih =>
      intro c' hc' q
      exact R.st.clo _ hc (ih _ hc rfl) _ ho c' hc' q.symm
  exact fun c hc => ⟨R.inP c hc, fun q => key _ q c hc rfl⟩
theorem found_all {fs : List Int} (hL : Lay O rs e) (ri : RI (Rch O rs ons) rs fs) (hroot : ∀ x ∈ ons, ∀ c ∈ rs, hit c x → c.r ∈ fs) (hcl : ∀ c ∈ rs, c.r ∈ fs → ClosedAt O rs fs c) : ∀ c ∈ rs, (c.r ∈ fs ↔ Rch O rs ons c.r) := by
  have key : ∀ y, Rch O rs ons y → y ∈ fs := by
    intro y hy
    induction hy with
    | root hx hc hh => exact hroot _ hx _ hc hh
    | step hc _ ho hin ih => exact hcl _ hc ih _ ho hin
  exact fun c hc => ⟨fun q => ri.2.2 _ q, key _⟩
theorem RSt.count {fs : List Int} (hL : Lay O rs e) {cn : Int} (R : RSt O rs ons ons.length cn W) (ri : RI (Rch O rs ons) rs fs) (ha : ∀ c ∈ rs, (c.r ∈ fs ↔ W (mkp c) ≠ 0)) : cn = (fs.length : Int) := by
  have h1 := R.cnt
  unfold cntM at h1
  rw [List.countP_eq_length_filter] at h1
  have nd := filter_map_nodup (p := fun c => decide (W (mkp c) ≠ 0)) hL.geo.nd
  have a := sub_len _ fs nd (fun y hy => by
    obtain ⟨c, hc, rfl⟩ := List.mem_map.mp hy
    have hc' := List.mem_filter.mp hc
    exact (ha c hc'.1).mpr (by simpa using hc'.2))
  have b := sub_len fs _ ri.1 (fun y hy => by
    obtain ⟨c, hc, rfl⟩ := List.mem_map.mp (ri.2.1 y hy)
    exact List.mem_map_of_mem (f := fun c : Rc => c.r) ((List.mem_filter (p := fun c => decide (W (mkp c) ≠ 0))).mpr ⟨hc, by simpa using (ha c hc).mp hy⟩))
  rw [List.length_map] at a b
  omega
theorem rootInv2 (hL : Lay O rs e) (hM : MSt O W rs) (hg : ∀ x ∈ ons, ∀ c ∈ rs, hit c x → W (mkp c) ≠ 0) : RootInv ons W (fun _ cn W' => cn = 0 ∧ W' = W) := by
  refine ⟨⟨rfl, rfl⟩, ?_⟩
  rintro i cn W' x ⟨rfl, rfl⟩ hx
  refine ⟨_, _, blockInv hL hM.same x, fun b hb => ⟨fun _ => ⟨rfl, rfl⟩, fun hne => ?_⟩⟩
  rcases hb with ⟨q, _⟩ | ⟨c, hc, rfl, hh⟩
  · exact absurd q hne
  · have hm := hg x (List.mem_of_getElem? hx) c hc hh
    refine ⟨fun _ _ _ _ _ => False, fun c W₂ => c = 0 ∧ W₂ = W', ⟨fun _ _ q => absurd q hm, fun _ => ⟨rfl, rfl⟩, ?_, ?_, ?_, ?_, ?_, ?_, ?_⟩, ?_⟩
    iterate 7 (intros; contradiction)
    rintro c' W₂ ⟨rfl, rfl⟩
    exact ⟨rfl, rfl⟩
end

theorem Chain.snoc {k : Kd} : ∀ {rs : List Rc} {b e : Int}, Chain b rs e → Chain b (rs ++ [⟨e + 8, k⟩]) (e + bsz k.wide) := by
  intro rs
  induction rs with
  | nil => intro b e h; have h' : b = e := h; subst h'; exact ⟨rfl, rfl⟩
  | cons c r ih => intro b e h; exact ⟨h.1, ih h.2⟩
structure MadeSt (ks : List Kd) (W f : Int → Int) (e : Int) (rs : List Rc) : Prop where
  free : FreeSt W f e
  chain : Chain 1024 rs e
  kin : ∀ c ∈ rs, c.k ∈ ks
  kok : ∀ k ∈ ks, KindOk W k
  head : ∀ c ∈ rs, W ((c.r + -8) / 4) = c.k.wh
  zero : ∀ c ∈ rs, ∀ i, 0 ≤ i → 4 * i < c.k.wide → W ((c.r + 4 * i) / 4) = 0
  mark : ∀ c ∈ rs, W (mkp c) = 0
theorem madeInv (ks : List Kd) : MadeInv ks (MadeSt ks) := by
  refine ⟨fun h => h.free, fun h hk => ?_, fun {W f e rs k W' f'} h hk hle A => ?_⟩
  · have K := h.kok _ hk
    have k1 := K.lo; have k2 := K.hi; have k3 := K.w0; have k4 := K.w1
    rw [K.wide]; omega
  · have hw := (h.kok k hk).wide
    have hw0 := (h.kok k hk).w0
    rw [hw] at hle A ⊢
    have G := h.chain.geo (by decide) (fun c hc => (h.kok _ (h.kin c hc)).w0)
    have f0 := bsz_facts hw0
    have hlo := h.free.lo
    have hal := h.free.al
    have hall := A.low
    refine ⟨A.free, h.chain.snoc, fun c hc => ?_, fun k' hk' => (h.kok k' hk').congr (fun p hp => A.low p (by omega)), fun c hc => ?_, fun c hc i i0 i1 => ?_, fun c hc => ?_⟩
    · rcases List.mem_append.mp hc with hc | hc
      · exact h.kin c hc
      · rw [List.mem_singleton.mp hc]; exact hk
    · rcases List.mem_append.mp hc with hc | hc
      · have a := G.hi c hc
        have b := bsz_facts (h.kok _ (h.kin c hc)).w0
        rw [A.low _ (by omega)]; exact h.head c hc
      · rw [List.mem_singleton.mp hc]
        have : (e + 8 + -8) / 4 = e / 4 := by omega
        dsimp only
        rw [this]; exact A.head
    · rcases List.mem_append.mp hc with hc | hc
      · have a := G.hi c hc
        have b := bsz_facts (h.kok _ (h.kin c hc)).w0
        rw [A.low _ (by omega)]; exact h.zero c hc i i0 i1
      · rw [List.mem_singleton.mp hc] at i1 ⊢
        dsimp only at i1 ⊢
        exact A.zero _ (by omega) (by omega)
    · rcases List.mem_append.mp hc with hc | hc
      · have a := G.hi c hc
        have b := bsz_facts (h.kok _ (h.kin c hc)).w0
        rw [A.low _ (by unfold mkp; omega)]; exact h.mark c hc
      · rw [List.mem_singleton.mp hc]
        unfold mkp
        dsimp only
        exact A.zero _ (by omega) (by omega)
theorem MadeSt.start {ks : List Kd} {W f : Int → Int} (hF : FreeSt W f 1024) (hK : ∀ k ∈ ks, KindOk W k) : MadeSt ks W f 1024 [] :=
  ⟨hF, rfl, (fun _ h => nomatch h), hK, (fun _ h => nomatch h), (fun _ h => nomatch h), (fun _ h => nomatch h)⟩
theorem MadeSt.lay {ks : List Kd} {W f : Int → Int} {e : Int} {rs : List Rc} (h : MadeSt ks W f e rs) : Lay W rs e :=
  ⟨h.chain, h.free.hi, fun q => (h.free.wd q).1, fun c hc => h.kok _ (h.kin c hc), h.head, fun c hc i i0 i1 => .inl (h.zero c hc i i0 i1)⟩
def FillSt (rs : List Rc) (e : Int) (W : Int → Int) : Prop := Lay W rs e ∧ ∀ c ∈ rs, W (mkp c) = 0
theorem fillInv (rs : List Rc) (e : Int) : FillInv rs (FillSt rs e) := by
  refine ⟨fun h hc => ?_, fun {W c i v} h hc i0 i1 hv => ?_⟩
  · obtain ⟨_, b⟩ := h.1.apart hc hc
    omega
  · obtain ⟨hL, h0⟩ := h
    have ev : v % 4294967296 = v := by
      rcases hv with q | q | q | q | ⟨c', hc', q⟩
      · omega
      · omega
      · omega
      · omega
      · have := hL.lim hc'; omega
    rw [ev]
    obtain ⟨_, b1, _, b3, _, b5, _, b7, _⟩ := hL.apart hc hc
    have G := hL.geo
    have he := G.hi c hc
    have f := bsz_facts (hL.kind c hc).w0
    have hea := G.ea
    refine ⟨⟨hL.chain, hL.hi, fun q => ?_, fun c' hc' => (hL.kind c' hc').congr (fun p hp => upd_ne _ _ (by omega)), fun c' hc' => ?_, fun c' hc' i' i0' i1' => ?_⟩, fun c' hc' => ?_⟩
    · rw [upd_ne _ _ (by omega)]; exact hL.free q
    · obtain ⟨a, b⟩ := hL.apart hc hc'
      rw [upd_ne _ _ (by rcases a with rfl | a | a <;> omega)]; exact hL.head c' hc'
    · unfold upd
      split
      · exact hv
      · exact hL.flds c' hc' i' i0' i1'
    · obtain ⟨a, b⟩ := hL.apart hc hc'
      rw [upd_ne _ _ (by unfold mkp; rcases a with rfl | a | a <;> omega)]; exact h0 c' hc'


example : True := by (w_top off); trivial
local macro_rules | `(tactic| ktr_units) => `(tactic| (have hcL9 := cLine_is; (simp only [units_under_make, units_in1, units_deeper, Around.mark_units, units_caller] at *); (try dsimp only [ktrTop] at *); omega))
local macro_rules | `(tactic| walk_at "call ref") => `(tactic| (k_here; (first | (with_reducible show wpAny _ _ (call (Value.ref 231) _ _) _ _ _) | (with_reducible show wpAny _ _ (call (Value.ref 143) _ _) _ _ _)); k_dflt (refine' call_cls ?k1 ?k2 ?k3 ?k4 ?k5 ?k6 ?_; (case k1 => k_asm); (case k2 => k_asm); (case k3 => k_asm); (case k4 => k_is); (case k5 => k_is); (case k6 => k_is); k_whole; intro x' d' h' F' N' l1 l2; (try k_lt l1); (try k_lt2 l2); (try k_sweep); walk_at "NU in")))
example : True := by
  (k_with "CompSrcT" => (refine hold ?_))
  (k_with "exec Assign cons ListComp" => (k_here; k_dflt (refine LCt.Assign_ListComp_T (F₀ := by k_asm) (by rfl) (by with_unfolding_all rfl) (by with_unfolding_all rfl) (by decide) (by rfl) (by decide) (by rfl) (by rfl) (by rfl) ?_)))
  trivial
theorem news_fresh {h₀ h h' : Heap} {L : Addr} {m : Str → Option Value} {l : List (Addr × Obj)} (F : Fr h₀ L h m) (hq : ∀ p ∈ l, h'.get? p.1 = some p.2 ∧ h.get? p.1 = none) : News h₀ L h' l := by
  intro p hp
  obtain ⟨a, b⟩ := hq p hp
  refine ⟨a, fun e => ?_, ?_⟩
  · obtain ⟨oL, _, _, hL, _⟩ := F.ns
    rw [e, hL] at b; cases b
  · cases q : h₀.get? p.1 with
    | none => rfl
    | some o => rw [F.keep _ _ q] at b; cases b
theorem KindOk.congr9 {W W' : Int → Int} {k : Kd} (h : KindOk W k) (e : ∀ p, 4 * p < k.wh + 96 → W' p = W p) : KindOk W' k := by
  have a := h.lo; have b := h.hi; have l := h.len; have al := h.al
  refine ⟨h.lo, h.al, h.hi, h.w0, h.w1, h.wal, (e _ (by omega)).trans h.wide, fun j o hj => ?_, (e _ (by omega)).trans h.fin, h.nd, h.len⟩
  have hjl : j < k.offs.length := by
    rcases Nat.lt_or_ge j k.offs.length with q | q
    · exact q
    · rw [List.getElem?_eq_none q] at hj; cases hj
  have := h.off j o hj
  exact ⟨(e _ (by omega)).trans this.1, this.2⟩
def KindIn (ex : List (Addr × Obj)) (v : Value) (k : Kd) : Prop := ∃ oa t1 t2 ovs no, v = .ref k.ad ∧ (k.ad, tupO [.int k.wh t1, .int k.wide t2, .ref oa]) ∈ ex ∧ (oa, listOf (List.toArray ovs) no) ∈ ex ∧ IntsAre ovs k.offs

theorem Off1.mem {D : Addr} : ∀ {l : List (Addr × Obj)}, LCg.Off1 D l → ∀ p ∈ l, p.1 ≠ D
  | [], _, _, h => nomatch h
  | _ :: _, x, p, h => (List.mem_cons.mp h).elim (fun e => by rw [e]; exact x.1) fun h => Off1.mem x.2 p h
/-- the kinds made so far -/
structure AreaSt (W : Int → Int) (ks : List Kd) (i : Nat) : Prop where
  len : ks.length = i
  ok : ∀ k ∈ ks, KindOk W k ∧ k.wh + 96 ≤ 64 + 96 * i
  zero : ∀ p, 16 + 24 * (i : Int) ≤ p → W p = 0
/-- the offsets picked so far -/
structure SpotSt (os : List Int) (j : Nat) : Prop where
  mul : ∀ o ∈ os, o % 4 = 0 ∧ 0 ≤ o ∧ o + 4 ≤ 4 * j
  nd : os.Nodup
  len : os.length ≤ j
theorem SpotSt.nil : SpotSt [] 0 := ⟨(fun o h => nomatch h), List.nodup_nil, Nat.le_refl _⟩
theorem SpotSt.keep {os : List Int} {j : Nat} (h : SpotSt os j) : SpotSt os (j + 1) := ⟨fun o ho => by have := h.mul o ho; omega, h.nd, Nat.le_succ_of_le h.len⟩
theorem SpotSt.add {os : List Int} {j : Nat} {v : Int} (h : SpotSt os j) (hv : v = 4 * (0 + (j : Int))) : SpotSt (os ++ [v]) (j + 1) := by
  subst hv
  refine ⟨fun o ho => ?_, ?_, ?_⟩
  · rcases List.mem_append.mp ho with ho | ho
    · have := h.mul o ho; omega
    · rw [List.mem_singleton.mp ho]; omega
  · rw [List.nodup_append]
    refine ⟨h.nd, by simp, fun x hx y hy => ?_⟩
    rw [List.mem_singleton.mp hy]
    have := h.mul x hx; omega
  · rw [List.length_append]; exact Nat.succ_le_succ h.len
/-- the table that is being written -/
structure TabSt (W8 W : Int → Int) (i : Nat) (dw : Int) (os : List Int) (q : Nat) : Prop where
  low : ∀ p, p < 16 + 24 * (i : Int) → W p = W8 p
  wide : W (16 + 24 * i) = 4 * dw
  zero : ∀ p, 21 + 24 * (i : Int) + q ≤ p → W p = 0
  tab : ∀ (j : Nat) o, j < q → os[j]? = some o → W (21 + 24 * i + j) = o
theorem TabSt.start {W8 : Int → Int} {ks : List Kd} {i : Nat} {dw : Int} {os : List Int} (h : AreaSt W8 ks i) (h0 : 0 ≤ dw) (h1 : dw < 12) : TabSt W8 (upd W8 ((64 + 96 * (0 + (i : Int) * 1)) / 4) (4 * dw % 4294967296)) i dw os 0 := by
  have e : (64 + 96 * (0 + (i : Int) * 1)) / 4 = 16 + 24 * i := by omega
  rw [e]
  refine ⟨fun p hp => upd_ne _ _ (by omega), ?_, fun p hp => ?_, fun j o h => absurd h (Nat.not_lt_zero _)⟩
  · rw [upd_eq]; omega
  · rw [upd_ne _ _ (by omega)]; exact h.zero p (by omega)
theorem TabSt.step {W8 W : Int → Int} {i q : Nat} {dw K oq d : Int} {os : List Int} (h : TabSt W8 W i dw os q) (hK : K = 21 + 24 * (i : Int) + q) (hq : os[q]? = some oq) (h0 : 0 ≤ oq) (h1 : oq < 4294967296) : TabSt W8 (upd W K (os.getD (0 + (q : Int) * 1).toNat d % 4294967296)) i dw os (q + 1) := by
  subst hK
  have e7 : (0 + (q : Int) * 1).toNat = q := by omega
  rw [e7, List.getD_eq_getElem?_getD, hq, Option.getD_some, Int.emod_eq_of_lt h0 h1]
  refine ⟨fun p hp => (upd_ne _ _ (by omega)).trans (h.low p hp), (upd_ne _ _ (by omega)).trans h.wide, fun p hp => (upd_ne _ _ (by omega)).trans (h.zero p (by omega)), fun j o hj ho => ?_⟩
  by_cases hjq : j = q
  · subst hjq
    rw [hq] at ho; cases ho
    exact upd_eq _ _ _
  · exact (upd_ne _ _ (by omega)).trans (h.tab j o (by omega) ho)
theorem TabSt.done {W8 W : Int → Int} {i : Nat} {dw K : Int} {os : List Int} {n : Nat} {ks : List Kd} {D : Addr} (h : TabSt W8 W i dw os os.length) (S : AreaSt W8 ks i) (O : SpotSt os n) (hn : (n : Int) = dw) (hw : dw < 12) (hi : i < 4) (hK : K = 21 + 24 * (i : Int) + os.length) {V : Int} (hV : V = 4294967295) :
    AreaSt (upd W K V) (ks ++ [⟨64 + 96 * (0 + (i : Int) * 1), 4 * dw, os, D⟩]) (i + 1) := by
  subst hK hV
  have hol := O.len
  have f1 : ∀ p, p ≠ 21 + 24 * (i : Int) + os.length → upd W (21 + 24 * (i : Int) + os.length) 4294967295 p = W p := fun p hp => upd_ne _ _ hp
  have e1 : (64 + 96 * (0 + (i : Int) * 1)) / 4 = 16 + 24 * i := by omega
  have e2 : (64 + 96 * (0 + (i : Int) * 1) + 20) / 4 = 21 + 24 * i := by omega
  refine ⟨by rw [List.length_append, S.len]; rfl, fun k hk => ?_, fun p hp => (f1 p (by omega)).trans (h.zero p (by omega))⟩
  rcases List.mem_append.mp hk with hk | hk
  · have := S.ok k hk
    exact ⟨this.1.congr9 fun p hp => (f1 p (by omega)).trans (h.low p (by omega)), by omega⟩
  · rw [List.mem_singleton.mp hk]
    refine ⟨⟨by dsimp only; omega, by dsimp only; omega, by dsimp only; omega, by dsimp only; omega, by dsimp only; omega, by dsimp only; omega, ?_, fun j o hj => ?_, ?_, O.nd, by dsimp only; omega⟩, by dsimp only; omega⟩
    · dsimp only
      rw [e1, f1 _ (by omega)]; exact h.wide
    · dsimp only at hj ⊢
      have hb := O.mul o (List.mem_of_getElem? hj)
      have hjl := lt_of_getElem? hj
      rw [e2, f1 _ (by omega)]
      exact ⟨h.tab j o hjl hj, hb.1, hb.2.1, by omega⟩
    · dsimp only
      rw [e2]; exact upd_eq _ _ _
/-- an address off what area keeps -/
structure OffA (ak wd xm dm ah ac a : Addr) : Prop where
  ak : a ≠ ak
  wd : a ≠ wd
  xm : a ≠ xm
  dm : a ≠ dm
  ah : a ≠ ah
  ac : a ≠ ac
theorem OffA.of {ak wd xm dm ah ac a : Addr} {o1 o2 o3 o4 o5 o6 : Obj} {im ex : List (Addr × Obj)} (h : ∀ p ∈ (ak, o1) :: (wd, o2) :: (ah, o3) :: (ex ++ im), p.1 ≠ a) (v1 : (xm, o4) ∈ im) (v2 : (dm, o5) ∈ im) (v6 : (ac, o6) ∈ im) : OffA ak wd xm dm ah ac a :=
  ⟨Ne.symm (h _ (.head _)), Ne.symm (h _ (.tail _ (.head _))), Ne.symm (h _ (.tail _ (.tail _ (.tail _ (List.mem_append_right _ v1))))), Ne.symm (h _ (.tail _ (.tail _ (.tail _ (List.mem_append_right _ v2))))), Ne.symm (h _ (.tail _ (.tail _ (.head _)))), Ne.symm (h _ (.tail _ (.tail _ (.tail _ (List.mem_append_right _ v6)))))⟩
theorem app_all {p : Addr × Obj → Prop} {ex im : List (Addr × Obj)} (h1 : ∀ q ∈ ex, p q) (h2 : ∀ q ∈ im, p q) : ∀ q ∈ ex ++ im, p q := fun q hq => (List.mem_append.mp hq).elim (h1 q) (h2 q)
/-- area's ledger behind its start -/
inductive AreaIm (g h : Heap) (L cl ah ac xm dm wd ak : Addr) (o0 oh9 : Obj) (cv : List Value) (nc : Nat) : Prop
  | mk (im : List (Addr × Obj)) (oc : Obj) (z1 : Int) (k1 t1 : Tok) (z2 : Int) (k2 : Tok) (n : Nat) (N : News g L h ((ak, listOf #[] 0) :: (wd, o0) :: (ah, oh9) :: im)) (hc : oc.data = Data.cell (some (.ref ah)))
      (v1 : (xm, memObj dm) ∈ im) (v2 : (dm, memDict z1 k1 t1 z2 k2 wd n) ∈ im) (v3 : (cl, oc) ∈ im) (v6 : (ac, listOf cv.toArray nc) ∈ im) (x1 : ∀ p ∈ im, p.1 ≠ wd) (x3 : ∀ p ∈ im, p.1 ≠ ah) (x4 : ∀ p ∈ im, p.1 ≠ ak)
      (d1 : ah < dm) (d2 : dm < xm) (d3 : xm < wd) (d4 : wd < ak) (d5 : ah < wd) (d6 : ah < ak) (d7 : dm < wd) : AreaIm g h L cl ah ac xm dm wd ak o0 oh9 cv nc
theorem area_im {g h : Heap} {L cl ah ac xm dm wd ak : Addr} {o0 oh9 oc : Obj} {cv : List Value} {nc n : Nat} {z1 z2 : Int} {k1 t1 k2 : Tok}
    (N : News g L h [(ak, listOf #[] 0), (wd, o0), (xm, memObj dm), (dm, memDict z1 k1 t1 z2 k2 wd n), (cl, oc), (ah, oh9), (ac, listOf cv.toArray nc)]) (hc : oc.data = Data.cell (some (.ref ah))) (l1 : ac < ah) (hcl : ah < cl) (d1 : cl < dm) (d2 : dm < xm) (d3 : xm < wd) (d4 : wd < ak) : AreaIm g h L cl ah ac xm dm wd ak o0 oh9 cv nc := by
  have e1 := Nat.lt_trans hcl d1; have e2 := Nat.lt_trans d2 d3; have e3 := Nat.lt_trans e1 e2; have e4 := Nat.lt_trans e3 d4; have e5 := Nat.lt_trans d1 e2; have e6 := Nat.lt_trans l1 e3; have e7 := Nat.lt_trans e1 d2
  have f1 := Nat.lt_trans d3 d4; have f2 := Nat.lt_trans e2 d4; have f3 := Nat.lt_trans e5 d4; have f4 := Nat.lt_trans e6 d4
  refine ⟨[(xm, memObj dm), (dm, memDict z1 k1 t1 z2 k2 wd n), (cl, oc), (ac, listOf cv.toArray nc)], oc, z1, k1, t1, z2, k2, n, fun p hp => N p ?_, hc, by simp, by simp, by simp, by simp, ?_, ?_, ?_, e1, d2, d3, d4, e3, e4, e2⟩
  · simp only [List.mem_cons, List.not_mem_nil, or_false] at hp ⊢
    rcases hp with h | h | h | h | h | h | h <;> simp only [h, true_or, or_true]
  · simp only [List.forall_mem_cons, List.not_mem_nil, false_implies, implies_true, and_true]
    exact ⟨neLt d3, neLt e2, neLt e5, neLt e6⟩
  · simp only [List.forall_mem_cons, List.not_mem_nil, false_implies, implies_true, and_true]
    exact ⟨neGt e7, neGt e1, neGt hcl, neLt l1⟩
  · simp only [List.forall_mem_cons, List.not_mem_nil, false_implies, implies_true, and_true]
    exact ⟨neLt f1, neLt f2, neLt f3, neLt f4⟩
theorem news_pair {g h : Heap} {L : Addr} {T D J A B C : Addr × Obj} {tl : List (Addr × Obj)} (N : News g L h (T :: D :: J :: A :: B :: C :: tl)) : News g L h (J :: A :: B :: C :: T :: D :: tl) := fun p hp => N p (by
  simp only [List.mem_cons] at hp ⊢
  rcases hp with h | h | h | h | h | h | h <;> simp only [h, true_or, or_true])
theorem off_in2 {J T D : Addr} {a b c : Addr × Obj} {o q : Obj} {tl : List (Addr × Obj)} (h : J ∉ (a :: b :: c :: tl).map (·.1)) (hn : J ≠ T) (hm : J ≠ D) : J ∉ (a :: b :: c :: (T, o) :: (D, q) :: tl).map (·.1) := fun z => by
  simp only [List.map_cons, List.mem_cons, not_or] at h z
  obtain ⟨h1, h2, h3, h5⟩ := h
  rcases z with z | z | z | z | z | z
  · exact h1 z
  · exact h2 z
  · exact h3 z
  · exact hn z
  · exact hm z
  · exact h5 z
inductive AreaJ (w : World) (xm dm ah ac ak wd : Addr) (len : Nat) (im : List (Addr × Obj)) (i : Nat) (m1 : Str → Option Value) : List (Addr × Obj) → Prop
  | mk {ex : List (Addr × Obj)} {ka : Array Value} {nk : Nat} {ks : List Kd} {W8 : Int → Int} {o8 oh8 : Obj} {tr : Tok} (M8 : MemIs w o8 W8) (H8 : HandOk oh8 ac len) (hR : Rel2 (KindIn ex) ka.toList ks) (S : AreaSt W8 ks i) (hex : ∀ p ∈ ex, OffA ak wd xm dm ah ac p.1)
      (q : AllAt m1 [("memory", .ref xm), ("kinds", .ref ak), ("room", .int 30 tr)]) : AreaJ w xm dm ah ac ak wd len im i m1 ((ak, listOf ka nk) :: (wd, o8) :: (ah, oh8) :: (ex ++ im))
/-- area's ledger behind the heap's making -/
inductive AreaFin (g h : Heap) (L xm wd ah ak x5 d5 fl : Addr) (o8 oh8 : Obj) (ka : Array Value) (nk : Nat) (ei : List (Addr × Obj)) : Prop
  | mk (tl : List (Addr × Obj)) (of5 : Obj) (z3 : Int) (k3 : Tok) (z4 : Int) (k4 t4 : Tok) (z5 : Int) (k5 t5 : Tok) (z6 : Int) (k6 : Tok) (n6 : Nat) (N : News g L h ((wd, o8) :: (fl, of5) :: tl)) (hf : FreeIs of5 (fun _ => 0))
      (m1 : (x5, heapObj d5) ∈ tl) (m2 : (d5, heapDict z3 k3 xm z4 k4 t4 z5 k5 t5 z6 k6 fl n6) ∈ tl) (m3 : (ak, listOf ka nk) ∈ tl) (m4 : (ah, oh8) ∈ tl) (m5 : ∀ p ∈ ei, p ∈ tl) (xw : ∀ p ∈ tl, p.1 ≠ wd) (xf : ∀ p ∈ tl, p.1 ≠ fl)
      (c1 : wd < d5) (c2 : wd < x5) (c3 : wd < fl) (c4 : xm < fl) (c7 : d5 < fl) (c8 : x5 < fl) : AreaFin g h L xm wd ah ak x5 d5 fl o8 oh8 ka nk ei
theorem area_fin {g h : Heap} {L xm wd ah ak x5 d5 fl l5 : Addr} {o8 oh8 of5 ol5 : Obj} {ka : Array Value} {nk n6 : Nat} {ei : List (Addr × Obj)} {z3 z4 z5 z6 : Int} {k3 k4 t4 k5 t5 k6 : Tok}
    (N : News g L h ((fl, of5) :: (l5, ol5) :: (x5, heapObj d5) :: (d5, heapDict z3 k3 xm z4 k4 t4 z5 k5 t5 z6 k6 fl n6) :: (ak, listOf ka nk) :: (wd, o8) :: (ah, oh8) :: ei)) (hf : FreeIs of5 (fun _ => 0)) (d3 : xm < wd) (d4 : wd < ak) (d5' : ah < wd) (ha : ak < d5) (hx : d5 < x5) (hl : x5 < l5) (hF : l5 < fl)
    (hei : ∀ p ∈ ei, p.1 < d5) (y1 : ∀ p ∈ ei, p.1 ≠ wd) : AreaFin g h L xm wd ah ak x5 d5 fl o8 oh8 ka nk ei := by
  have c1 := Nat.lt_trans d4 ha; have c2 := Nat.lt_trans c1 hx; have c8 := Nat.lt_trans hl hF; have c3 := Nat.lt_trans c2 c8; have c4 := Nat.lt_trans d3 c3; have c7 := Nat.lt_trans hx c8; have e1 := Nat.lt_trans c2 hl; have e2 := Nat.lt_trans ha c7; have e3 := Nat.lt_trans d5' c3
  refine ⟨(l5, ol5) :: (x5, heapObj d5) :: (d5, heapDict z3 k3 xm z4 k4 t4 z5 k5 t5 z6 k6 fl n6) :: (ak, listOf ka nk) :: (ah, oh8) :: ei, of5, z3, k3, z4, k4, t4, z5, k5, t5, z6, k6, n6, fun p hp => N p ?_, hf, by simp, by simp, by simp, by simp, fun p hp => by simp [hp], ?_, ?_, c1, c2, c3, c4, c7, c8⟩
  · simp only [List.mem_cons] at hp ⊢
    rcases hp with h | h | h | h | h | h | h | h <;> simp only [h, true_or, or_true]
  · simp only [List.forall_mem_cons]
    exact ⟨neGt e1, neGt c2, neGt c1, neGt d4, neLt d5', y1⟩
  · simp only [List.forall_mem_cons]
    exact ⟨neLt hF, neLt c8, neLt c7, neLt e2, neLt e3, fun p hp => neLt (Nat.lt_trans (hei p hp) c7)⟩
theorem area_none {g h sh : Heap} {L ah ac : Addr} {o q : Obj} {led : List (Addr × Obj)} {p : Addr × Obj} (N : News g L h led) (hg : ∀ b r, b ∉ [(ah, o), (ac, q)].map (·.1) → sh.get? b = some r → g.get? b = some r) (hp : p ∈ led) (n1 : p.1 ≠ ah) (n2 : p.1 ≠ ac) : h.get? p.1 = some p.2 ∧ sh.get? p.1 = none := by
  refine ⟨(N p hp).1, ?_⟩
  cases e : sh.get? p.1 with
  | none => rfl
  | some r =>
    have := hg p.1 r (by
      simp only [List.map_cons, List.map_nil, List.mem_cons, List.not_mem_nil, or_false, not_or]
      exact ⟨n1, n2⟩) e
    rw [(N p hp).2.2] at this; cases this
theorem area_none' {g h sh : Heap} {L ah ac : Addr} {o q : Obj} {led : List (Addr × Obj)} {a : Addr} {r : Obj} (N : News g L h led) (hg : ∀ b r, b ∉ [(ah, o), (ac, q)].map (·.1) → sh.get? b = some r → g.get? b = some r) (l1 : ac < ah) (hp : (a, r) ∈ led) (n1 : ah < a) : h.get? a = some r ∧ sh.get? a = none :=
  area_none N hg hp (neGt n1) (neGt (Nat.lt_trans l1 n1))
theorem area_free {W : Int → Int} {x y : Int} (hx : x = 480) (hy : y = 0) : FreeSt (upd (upd W (1024 / 4) ((x + 1) % 4294967296)) ((1024 + 4) / 4) (y % 4294967296)) (upd (fun _ => 0) (lnum x) 1024) 1024 := by
  subst hx hy
  refine ⟨by decide, by decide, by decide, fun j j0 j1 => ?_, fun _ => ⟨?_, ?_⟩⟩
  · have e9 : lnum 480 = lnum (1504 - 1024) := rfl
    rw [e9]
    unfold upd
    by_cases hj : j = lnum (1504 - 1024)
    · rw [if_pos hj, if_pos ⟨by decide, hj⟩]
    · rw [if_neg hj, if_neg (fun q => hj q.2)]
  · unfold upd; rw [if_neg (by decide), if_pos rfl]; rfl
  · unfold upd; rw [if_pos rfl]; rfl
theorem area_kinds {W : Int → Int} {ks : List Kd} {i : Nat} {u v : Int} (S : AreaSt W ks i) : ∀ k ∈ ks, KindOk (upd (upd W (1024 / 4) u) ((1024 + 4) / 4) v) k := fun k hk => (S.ok k hk).1.congr fun p hp => by rw [upd_ne _ _ (by omega), upd_ne _ _ (by omega)]
/-- the comprehension's word -/
inductive SpotJ (ah ac : Addr) (len : Nat) (J K M : Addr × Obj) (tl : List (Addr × Obj)) (j : Nat) (ys : List Value) : List (Addr × Obj) → Prop
  | mk {oh7 : Obj} {os : List Int} (H7 : HandOk oh7 ac len) (hys : IntsAre ys os) (S : SpotSt os j) : SpotJ ah ac len J K M tl j ys (J :: K :: M :: (ah, oh7) :: tl)
/-- the inner for's word -/
inductive TabJ (w : World) (W8 : Int → Int) (i : Nat) (dw : Int) (os : List Int) (xm ak wd : Addr) (tr : Tok) (D : Addr) (A J K : Addr × Obj) (tl : List (Addr × Obj)) (q : Nat) (m1 : Str → Option Value) : List (Addr × Obj) → Prop
  | mk {o9 : Obj} {W : Int → Int} {twh tww : Tok} (M9 : MemIs w o9 W) (S : TabSt W8 W i dw os q) (e : AllAt m1 [("memory", .ref xm), ("kinds", .ref ak), ("room", .int 30 tr), ("where", .int (64 + 96 * (0 + (i : Int) * 1)) twh), ("wide", .int (4 * dw) tww), ("offsets", .ref D)]) :
      TabJ w W8 i dw os xm ak wd tr D A J K tl q m1 (A :: J :: K :: (wd, o9) :: tl)

section
variable {w : World} {mean : ExcName → Option Value} {mg mb : Str → Option Value} {dp un : Nat} {gd : Option (List Code)} {cn : Str} {cs : Scope} {a : Addr} {ccd : Value} {cl : List (Str × Addr)} {outer : List Env} {A₀ : Around} {base h₀ : Heap} {L : Addr} {m : Str → Option Value} {s : Shared}
  {news : List (Addr × Obj)} {ah ac : Addr} {oh : Obj} {cv : List Value} {cns : List Int} {nc : Nat}
set_option maxHeartbeats 8000000 in
theorem area_ok {t : Tok} {Q E : Value → Shared → Prop}
    (B : Below A₀ base outer h₀) (F : Fr h₀ L s.heap m) (X : (hd.heap_39 w.params).In h₀) (T : TopH mean mg mb h₀) (hk : cs.kind = .function) (hd : dp + 20 < recursionLimit) (hu : un + 200 < cLine)
    (N : News h₀ L s.heap news) (j1 : (ah, oh) ∈ news) (j2 : (ac, listOf cv.toArray nc) ∈ news) (hi : IntsAre cv cns) (hH : HandOk oh ac cns.length) (hln : cns.length ≤ 63) (l1 : ac < ah)
    (ret : ∀ ta xm dm wd ak xh dh fl z1 k1 t1 z2 k2 n z3 k3 z4 k4 t4 z5 k5 t5 z6 k6 n' kvs nk ks exk W f o' of' oh' h' tk', Same [ah] s.heap h' → h'.get? ah = some oh' → HandOk oh' ac cns.length → MemIs w o' W → FreeIs of' f → FreeSt W f 1024 →
      (∀ k ∈ ks, KindOk W k) → 1 ≤ ks.length → ks.length ≤ 4 → Rel2 (KindIn exk) kvs ks →
      (∀ p ∈ (ta, tupO [.ref xh, .ref ak]) :: (fl, of') :: (xh, heapObj dh) :: (dh, heapDict z3 k3 xm z4 k4 t4 z5 k5 t5 z6 k6 fl n') :: (ak, listOf (List.toArray kvs) nk) :: (wd, o') :: (xm, memObj dm) :: (dm, memDict z1 k1 t1 z2 k2 wd n) :: exk, h'.get? p.1 = some p.2 ∧ s.heap.get? p.1 = none) →
      ah < dm → dm < xm → xm < wd → wd < ak → ak < dh → dh < xh → xh < fl → fl < ta → (∀ p ∈ exk, (p.1 ≠ ak ∧ p.1 ≠ wd ∧ p.1 ≠ xm ∧ p.1 ≠ dm ∧ p.1 ≠ ah ∧ p.1 ≠ ac) ∧ p.1 < dh) → (wd == sysModules) = false → Q (.ref ta) { s with heap := h', toks := tk' }) :
    wpAny (model pw w) (ktrTop dp un gd cn cs L a ccd cl outer) (call (.ref 247) [.ref ah, .int 30 t]) Q E s := by
  replace N := News.two N j1 j2
  replace l1 := ltN l1
  k_dflt walk_at "NU enterC"
  intro g' L' h' tk' cells' Qb hg' hL' hQ hQn F' N' Y' B' X' T' l2
  k_lt l2
  k_cells Y'
  (try simp only [List.cons_append, List.nil_append] at N'); (try dsimp only); (try k_lift B'); (try k_fold)
  k_steps
  rename Fr _ _ _ _ => F9
  rename News _ _ _ _ => N9
  rename_i xm dm hx7 l5 l6 gx Lx hx6 Bx Xx Tx tky hx8 wd hx5 o0 lo hs0 fs0 hi0 fi0 l3 hx3 Fx Nx Tcx kXx hx2 tkx ak hx1 l4 hx0 d9 t91 h91 tk91 oh9 p9 q9 H9 h92 tk92 t92 u92 v92 R9 K9
  rename (_ = Data.cell _) => hcell
  clear Fx Nx Bx Xx Tx K9
  have hM0 : MemIs w o0 (fun _ => 0) := ⟨[], [], hi0, fi0, fun _ => rfl, fun _ h => nomatch h⟩
  obtain ⟨im, oc, z1, k1, t1, z2, k2, n, N9, hcell, v1, v2, v3, v6, x1, x3, x4, d1, d2, d3, d4, aw, aa, dw⟩ := area_im N9 hcell l1 (Nat.lt_succ_of_lt l2.1) l5.1 l6 l3.1 (l4 _ (.head _))
  clear hi0 fi0 hs0 fs0 l4 l5 l6 l3
  refine hold_out ?_
  refine for_range (n := (1 + d9).toNat) (AreaJ w xm dm ah ac ak wd cns.length im) (by rfl) (by first | exact PassesOwn.never | passes_own | with_unfolding_all passes_own)
    R9 (small_one (by omega) (by omega) (by omega) (by omega)) (by unfold Builtin.Range.rangeSize; simp only [Int.reduceGT, if_true]; split <;> omega) F9 N9
    (AreaJ.mk (ex := []) (ka := #[]) (ks := []) hM0 H9 Rel2.nil ⟨rfl, (fun k h => nomatch h), (fun p _ => rfl)⟩ (fun p h => nomatch h) rfl) ?_ ?_
  · rintro J9 i ti m1 nw h8 tk8 oI Wb hi9 ⟨M8, H8, hR, S, hex, q⟩ hoff hlt F8 N8 hJ
    rename_i ex ka nk ks W8 o8 oh8 tr
    have F7 := fr_over _ q F8
    have e1 : ak < J9 := hlt (ak, _) (.head _)
    have e2 : wd < J9 := Nat.lt_trans d4 e1
    have e3 : ah < J9 := Nat.lt_trans aa e1
    clear F9 N9 R9 H9 hM0 F8 q hlt
    have y1 := app_all (fun p hp => (hex p hp).wd) x1
    have y3 := app_all (fun p hp => (hex p hp).ah) x3
    have y4 := app_all (fun p hp => (hex p hp).ak) x4
    have v1' := List.mem_append_right ex v1
    have v2' := List.mem_append_right ex v2
    have v3' := List.mem_append_right ex v3
    have v6' := List.mem_append_right ex v6
    have hks := S.len
    have hka : ka.size = ks.length := by rw [← hR.1, Array.length_toList]
    k_steps
    rename Fr _ _ _ _ => F9
    rename News _ _ _ _ => N9
    rename_i hy1 tky1 dw tw hw1 tkw ow pw9 qw Hw hy2 hw2 tkw2 tw2 uw2 vw2 R9 K9
    clear K9
    have e4 : (4 * dw).fdiv 4 = dw := by rw [Int.fdiv_eq_ediv_of_nonneg _ (by decide)]; omega
    have edw : (dw.toNat : Int) = dw := Int.toNat_of_nonneg pw9
    rw [e4] at R9
    refine hold_out (LCt.CompSrcT.range (n := dw.toNat) (by rfl) F9 N9 R9 (small_one (by omega) (by omega) (by omega) (by omega)) (by unfold Builtin.Range.rangeSize; simp only [Int.reduceGT, if_true]; split <;> omega) (by rw [sizeLine_eq]; omega)
      (fun gg => compT_ind (n := dw.toNat) (SpotJ ah ac cns.length (J9, oI) (ak, listOf ka nk) (wd, o8) (ex ++ im)) ?_ ?_ _ 0 [] _ (Nat.zero_add _) ⟨Hw, .nil, SpotSt.nil⟩))
    · clear F9 N9 R9 Hw
      rintro j ys nw v I1 oI1 C1 oC1 D1 m2 h1 tk1 E1 hj ⟨H7, hys, O⟩ hv1 hC1 hx1' F1 N1 off1 ne1 Cb Cn hCb hCn
      obtain ⟨tv, rfl⟩ := hv1
      have o3 := LCg.Off3.mem off1 (ah, _) (.tail _ (.tail _ (.tail _ (.head _))))
      have u1 := o3.1
      have u2 := o3.2.1
      have u3 := o3.2.2
      clear o3
      k_steps
      all_goals (rename Fr _ _ _ _ => F9; rename News _ _ _ _ => N9; rename HandOk _ _ _ => H9)
      · exact hCb _ _ (LCg.CompEnd.intro F9 N9 _ (fun p hp => hp) off1 trivial ⟨H9, ints_snoc hys, O.add rfl⟩)
      · exact hCn _ (LCg.CompEnd.intro F9 N9 _ (fun p hp => hp) off1 trivial ⟨H9, hys, O.keep⟩)
    · clear F9 N9 R9 Hw
      rintro ys nw ⟨H7, hys, O⟩
      rename_i oh7 os
      intro D1 hD tkD FD ND offD
      have oD := Off1.mem offD
      have u1 : wd ≠ D1 := oD (wd, _) (.tail _ (.tail _ (.head _)))
      have u2 : ak ≠ D1 := oD (ak, _) (.tail _ (.head _))
      have uh : J9 ≠ D1 := oD (J9, _) (.head _)
      clear offD
      have hi4 : i < 4 := by omega
      have hysl := hys.length
      have hosl : os.length ≤ 11 := by have := O.len; omega
      k_steps
      rename Fr _ _ _ _ => F9
      rename News _ _ _ _ => N9
      rename MemIs _ _ (upd _ _ _) => M9
      rename IsRange _ _ _ _ _ _ _ _ => R9
      refine hold_out ?_
      refine for_range (n := os.length) (TabJ w W8 i dw os xm ak wd tr D1 (D1, LCg.lst ys) (J9, oI) (ak, listOf ka nk) ((ah, oh7) :: (ex ++ im))) (by rfl) (by first | exact PassesOwn.never | passes_own | with_unfolding_all passes_own)
        R9 (small_one (by omega) (by omega) (by omega) (by omega)) (by unfold Builtin.Range.rangeSize; simp only [Int.reduceGT, if_true]; split <;> omega) F9 N9
        ⟨M9, TabSt.start S pw9 qw, rfl⟩ ?_ ?_
      · rintro J8 q tq m1 nw h8 tk8 oJ Vb hq ⟨M10, Z, e⟩ hoff8 hlt8 F8 N8 hJ8
        have F7 := fr_over _ e F8
        have w1 : wd < J8 := hlt8 (wd, _) (.tail _ (.tail _ (.tail _ (.head _))))
        clear F9 N9 R9 M9 F8 e hlt8
        obtain ⟨oq, hoq⟩ : ∃ oq, os[q]? = some oq := ⟨os[q], List.getElem?_eq_getElem hq⟩
        have hbq := O.mul oq (List.mem_of_getElem? hoq)
        k_steps
        rename Fr _ _ _ _ => F9
        rename News _ _ _ _ => N9
        rename MemIs _ _ (upd _ _ _) => M9
        exact hJ8 _ ⟨F9, N9, hoff8, M9, Z.step (by omega) hoq hbq.2.1 (by omega), rfl⟩
      · rintro m1 nw h8 tk8 ⟨M10, Z, e⟩ F8 N8
        rename_i o9 W10 twh tww
        have F7 := fr_over _ e F8
        clear F9 N9 R9 M9 F8 e
        k_steps
        rename Fr _ _ _ _ => F9
        rename News _ _ _ _ => N9
        rename MemIs _ _ (upd _ _ _) => M9
        rename (D1 < _ ∧ _) => l7
        rename_i D2 hw7 tk7
        have l7' := ktn_ltOf l7.2.2.2.2.2
        have oD2 : ∀ p ∈ (ak, listOf ka nk) :: (wd, o8) :: (ah, oh7) :: (ex ++ im), p.1 ≠ D2 := List.forall_mem_cons.mpr ⟨neLt l7.2.2.1, List.forall_mem_cons.mpr ⟨neLt l7.2.2.2.1, List.forall_mem_cons.mpr ⟨neLt l7.2.2.2.2.1, fun p hp => neLt (l7' p hp)⟩⟩⟩
        refine hJ _ ⟨F9, news_pair N9, off_in2 hoff (neLt l7.2.1) uh, AreaJ.mk (ex := (D2, tupO [.int (64 + 96 * (0 + (i : Int) * 1)) twh, .int (4 * dw) tww, .ref D1]) :: (D1, LCg.lst ys) :: ex) (ka := ka.push (.ref D2)) (nk := nk + 1) M9 H7 ?_ (Z.done (D := D2) S O edw qw hi4 (by omega) rfl) ?_ rfl⟩
        · rw [Array.toList_push]
          exact (hR.mono fun v c ⟨oa, t1, t2, ovs, no, a, b, d, e⟩ => ⟨oa, t1, t2, ovs, no, a, .tail _ (.tail _ b), .tail _ (.tail _ d), e⟩).snoc ⟨D1, _, _, ys, _, rfl, .head _, .tail _ (.head _), hys⟩
        · exact List.forall_mem_cons.mpr ⟨OffA.of oD2 v1 v2 v6, List.forall_mem_cons.mpr ⟨OffA.of (fun p hp => oD p (.tail _ hp)) v1 v2 v6, hex⟩⟩
  · rintro m1 nw h8 tk8 ⟨M8, H8, hR, S, hex, q⟩ F8 N8
    rename_i ex ka nk ks W8 o8 oh8 tr
    have F7 := fr_over _ q F8
    clear F9 N9 R9 H9 hM0 F8 q
    have y1 := app_all (fun p hp => (hex p hp).wd) x1
    (try dsimp only); (try k_fold)
    k_steps
    rename News _ _ _ _ => N5
    rename Fr _ _ _ _ => F5
    rename_i x5 d5 h50 F50 N50 l5a l5b g5 L5 h5x FG5 B5 X5 T5 tk5 h51 h52 h53 l5 h54 l5c D5 h55 i5 n5 s5 e5 e6 e7 l5d h6
    rename (_ < D5 ∧ _) => l5d
    obtain ⟨tl, of5, z3, k3, z4, k4, t4, z5, k5, t5, z6, k6, n6, N5, hf, m1, m2, m3, m4, m5, xw, xf, c1, c2, c3, c4, c7, c8⟩ := area_fin N5 ⟨_, _, _, _, rfl, _, rfl⟩ d3 d4 aw l5a.1 l5b (l5c _ (.head _)) l5d.1 (ktn_ltOf l5a.2.2.2) y1
    have v1' := m5 _ (List.mem_append_right ex v1)
    have v2' := m5 _ (List.mem_append_right ex v2)
    have c5 : dm < D5 := Nat.lt_trans d2 c4
    clear i5
    refine hold_out ?_
    k_steps
    rename MemIs _ _ (upd _ _ _) => M9
    rename FreeIs _ (upd _ _ _) => L9
    rename Fr _ _ _ _ => F9
    rename News _ _ _ _ => N9
    rename (wd < _ ∧ D5 < _ ∧ AllLt _ _) => l9
    rename_i h59 tk59 o59 f59 F59 N59 Tc59 kX59 ta h599
    have tl1 : ∀ p ∈ tl, p ∈ (ta, tupO [.ref x5, .ref ak]) :: (wd, o59) :: (D5, f59) :: tl := fun p hp => .tail _ (.tail _ (.tail _ hp))
    have r1 := Nat.lt_trans aw l9.1
    have r2 := Nat.lt_trans aw c3
    have r3 := Nat.lt_trans aw c2
    have r4 := Nat.lt_trans aw c1
    have r5 := Nat.lt_trans d1 d2
    refine hQ _ _ (ret ta xm dm wd ak x5 d5 D5 z1 k1 t1 z2 k2 n z3 k3 z4 k4 t4 z5 k5 t5 z6 k6 n6 ka.toList nk ks ex _ _ _ _ oh8 _ _ (same_end [ah] hg' F9 N9 (fun p hp => (N p hp).1) (fun p hp => (List.mem_cons.mp hp).elim (fun e => .inl (by rw [e]; exact .head _)) fun q => .inr (tl1 _ (m5 _ (List.mem_append_right ex ((List.mem_singleton.mp q) ▸ v6))))))
      (N9 (ah, oh8) (tl1 _ m4)).1 H8 M9 L9 (area_free rfl rfl) (area_kinds S) (by have := S.len; omega) (by have := S.len; omega) hR ?_ d1 d2 d3 d4 l5a.1 l5b c8 l9.2.1 (fun p hp => ⟨⟨(hex p hp).ak, (hex p hp).wd, (hex p hp).xm, (hex p hp).dm, (hex p hp).ah, (hex p hp).ac⟩, ktn_ltOf l5a.2.2.2 p (List.mem_append_left _ hp)⟩) lo)
    rw [Array.toArray_toList]
    exact List.forall_mem_cons.mpr ⟨area_none' N9 hg' l1 (.head _) r1, List.forall_mem_cons.mpr ⟨area_none' N9 hg' l1 (.tail _ (.tail _ (.head _))) r2, List.forall_mem_cons.mpr ⟨area_none' N9 hg' l1 (tl1 _ m1) r3, List.forall_mem_cons.mpr ⟨area_none' N9 hg' l1 (tl1 _ m2) r4, List.forall_mem_cons.mpr ⟨area_none' N9 hg' l1 (tl1 _ m3) aa, List.forall_mem_cons.mpr ⟨area_none' N9 hg' l1 (.tail _ (.head _)) aw,
      List.forall_mem_cons.mpr ⟨area_none' N9 hg' l1 (tl1 _ v1') r5, List.forall_mem_cons.mpr ⟨area_none' N9 hg' l1 (tl1 _ v2') d1, fun p hp => area_none N9 hg' (tl1 _ (m5 _ (List.mem_append_left _ hp))) (hex p hp).ah (hex p hp).ac⟩⟩⟩⟩⟩⟩⟩⟩
end


example : True := by (w_top off); trivial
section
open PyProof.Rows.LCg PyProof.Rows.LCt
variable {prog : Program} {w : World} {A : Around} {E : Value → Shared → Prop} {s : Shared} {h₀ : Heap} {L : Addr} {m : Str → Option Value} {env : Env}
/-- the source of a block with a test: a range of any stride -/
def StrideSrc (prog : Program) (w : World) (A : Around) (h₀ : Heap) (L : Addr) (m : Str → Option Value) (env : Env) (ct elt : PySem.Expr) (x : Str) (scope : Scope) (cl : List (Str × Addr)) (Fin : Shared → List Value → List (Addr × Obj) → Prop) (xv : Value) (s₁ : Shared) : Prop :=
  ∃ r a b c t u v n news, xv = .ref r ∧ A.handled = none ∧ Fr h₀ L s₁.heap m ∧ News h₀ L s₁.heap news ∧ IsRange s₁.heap r a b c t u v ∧ Builtin.Range.small a b c = true ∧ Builtin.Range.rangeSize a b c = ((n : Nat) : Int) ∧ n ≤ sizeLine ∧
    ∀ g, CompRestT prog w A h₀ L m env ct elt x scope cl { s₁ with heap := g } (fun _ => True) (fun i v => ∃ t, v = .int (a + (i : Int) * c) t) (Fin { s₁ with heap := g }) n 0 [] news
theorem stride_go {elt iter ct : PySem.Expr} {x : Str} {px : Pos} {scope : Scope} {cl : List (Str × Addr)} {pos : Pos} {xv : Value} {Fin : Shared → List Value → List (Addr × Obj) → Prop} {RR : Value → Addr → Result → Shared → Prop}
    (hcell : ∀ y ∈ scope.names, y.2 ≠ .cell) (hkind : scope.kind = .function) (hx : scope.names.lookup x = some .local)
    (hS : StrideSrc prog w A h₀ L m env ct elt x scope cl Fin xv s)
    (hRR : ∀ g D C h tk m' ys news', Fr h₀ L h m → News h₀ L h ((D, lst ys) :: news') → Off1 D news' → h.Ns C m' → h₀.get? C = none → C ≠ L → C ≠ D → (∀ p ∈ news', p.1 ≠ C) → Fin { s with heap := g } ys news' → RR (.ref D) C (.ok .next) { s with heap := h, toks := tk }) :
    wpAny (model prog w) A (pyIter xv) (fun it s₂ => wpAny (model prog w) A (newList []) (fun acc s₃ => wpAny (model prog w) A (newFunctionEnv scope env.globals cl [] env.qual none .none (some env)) (fun cenv s₄ =>
      codeAny (model prog w) A (.compStart (.ListComp elt [⟨.Name x px, iter, [ct], 0⟩] scope pos) 0 it acc { cenv with scope := relabel scope env }) (RR acc cenv.locals) s₄) E s₃) E s₂) E s := by
  obtain ⟨r, a, b, c, t, u, v, n, news, rfl, hh, F, N, hr, hsm, hn, hsz, R⟩ := hS
  refine wpAny_pyIter_range hr hsm ?_
  refine block_T (Walks.range hh s.heap.objs.size a c n) hsz (fun i h st => ⟨_, st⟩) ?_ hcell hkind hx ?_ ?_ (F.push _) ?_ (Nat.ne_of_lt F.ns.lt) (next_is_new F) (fun p hp => Nat.ne_of_lt (Heap.lt_size (N p hp).1)) trivial (R _) ?_
  · intro i h h' o nw st e e' _ _ _
    have st' : h.get? _ = some _ := st
    show h'.get? _ = some _
    rw [e', ← e]; exact st'
  · show IsRangeIter _ _ _ _ _
    rw [hn]
    simpa using Heap.get?_push_size _ rfl
  · intro b hb
    rw [List.mem_singleton.mp hb]
    show s.heap.objs.size < (s.heap.push _).objs.size
    rw [Heap.size_push]; exact Nat.lt_succ_self _
  · exact fun p hp => ⟨Heap.get?_push_of_some _ (N p hp).1, (N p hp).2⟩
  · intro D C h tk m' ys news' F' N' o1 hn' hC₀ _ hCL _ hCD offC fin
    exact hRR _ D C h tk m' ys news' F' N' o1 hn' hC₀ hCL hCD offC fin
theorem comp_stride {ct elt iter : PySem.Expr} {x : Str} {px : Pos} {scope : Scope} {cl : List (Str × Addr)} {pos : Pos} {Q : Value → Shared → Prop} (_F₀ : Fr h₀ L s.heap m)
    (hclos : closureFor scope env = pure cl) (hcell : ∀ y ∈ scope.names, y.2 ≠ .cell) (hkind : scope.kind = .function)
    (hnames : ∀ y ∈ scope.names, y.2 = .local → scope.names.lookup y.1 = some .local) (hx : scope.names.lookup x = some .local)
    (h : wpAny (model prog w) A (eval iter env) (StrideSrc prog w A h₀ L m env ct elt x scope cl (fun s₂ => FinE h₀ L m s₂ Q)) E s)
    (hs : ∀ x, foldedSetIterable iter env x = pure x := by intro _; rfl) :
    wpAny (model prog w) A (eval (.ListComp elt [⟨.Name x px, iter, [ct], 0⟩] scope pos) env) Q E s := by
  rw [eval_ListComp]
  refine wpAny_comprehension_free (use := none) rfl hs hclos hkind hnames (wpAny_mono h (fun xv s₁ h₁ => ?_) fun _ _ e => e)
  refine stride_go hcell hkind hx h₁ ?_
  intro g D C h tk m' ys news' F' N' o1 hn hC₀ hCL hCD offC fin
  refine ⟨m', hn, fun h'' hs'' => fin D h'' tk (F'.change hs'' hCL hC₀) (fun p hp => ⟨hs''.extBut _ _ ?_ (N' p hp).1, (N' p hp).2⟩) o1⟩
  rcases List.mem_cons.mp hp with rfl | hp
  · exact Ne.symm hCD
  · exact offC p hp
theorem assign_stride {ct elt iter : PySem.Expr} {x y : Str} {px py : Pos} {scope : Scope} {cl : List (Str × Addr)} {pos spos : Pos} {Q : Flow → Shared → Prop} (_F₀ : Fr h₀ L s.heap m) (hLe : env.locals = L)
    (hsw : swapsWith (.ListComp elt [⟨.Name x px, iter, [ct], 0⟩] scope pos) (some (.Name y py)) spos.line env = pure true)
    (hclos : closureFor scope env = pure cl) (hcell : ∀ z ∈ scope.names, z.2 ≠ .cell) (hkind : scope.kind = .function)
    (hnames : ∀ z ∈ scope.names, z.2 = .local → scope.names.lookup z.1 = some .local) (hx : scope.names.lookup x = some .local)
    (hy : env.kindOf y = some .local) (hp : (env.scope.kind == .class || (env.scope.kind == .module && env.locals != env.globals)) = false)
    (h : wpAny (model prog w) A (eval iter env) (StrideSrc prog w A h₀ L m env ct elt x scope cl (fun s₂ => FinA h₀ L m s₂ y Q)) E s)
    (hs : ∀ x, foldedSetIterable iter env x = pure x := by intro _; rfl) :
    wpAny (model prog w) A (exec (.Assign [.Name y py] (.ListComp elt [⟨.Name x px, iter, [ct], 0⟩] scope pos) spos) env) Q E s := by
  subst hLe
  rw [exec_Assign_Name_used _ _ _ _ hsw]
  refine wpAny_bind (wpAny_standAt (wpAny_bind ?_))
  show wpAny _ A (do let _ ← comprehension (.ListComp elt [⟨.Name x px, iter, [ct], 0⟩] scope pos) scope env _ (newList []) false (eval iter env) (some (assign (.Name y py) env))) _ _ s
  refine wpAny_bind (wpAny_mono (wpAny_comprehension_free (use := some (assign (.Name y py) env)) (Q := fun _ s' => Q .next s') rfl hs hclos hkind hnames
    (wpAny_mono h (fun xv s₁ h₁ => ?_) fun _ _ e => e)) (fun _ s' hq => wpAny_pure (wpAny_pure hq)) fun _ _ e => e)
  refine stride_go hcell hkind hx h₁ ?_
  intro g D C h' tk m' ys news' F' N' o1 hn hC₀ hCL hCD offC fin
  show wpAny _ A (assign (.Name y py) env (.ref D)) _ _ _
  refine wpAny_assign_Name (wpAny_storeName_local hy F'.ns (fun h₂ hn₂ hs₂ => ?_) hp)
  have F₂ : Fr h₀ env.locals h₂ (fun z => if z = y then some (.ref D) else m z) := F'.set hn₂ hs₂
  refine ⟨m', hn.sameBut hs₂ hCL, fun h'' hs'' => fin D h'' _ (F₂.change hs'' hCL hC₀) (fun p hp => ⟨hs''.extBut _ _ ?_ (hs₂.extBut _ _ (N' p hp).2.1 (N' p hp).1), (N' p hp).2⟩) o1⟩
  rcases List.mem_cons.mp hp with rfl | hp
  · exact Ne.symm hCD
  · exact offC p hp
end


example : True := by (w_top off); trivial
section
variable {prog : Program} {w : World} {A : Around} {E : Value → Shared → Prop} {s : Shared} {h₀ : Heap} {L l b : Addr} {m : Str → Option Value} {env : Env} {news : List (Addr × Obj)}
theorem ne_lists {vs us : List Value} {Q : Value → Shared → Prop} (N : News h₀ L s.heap news) (hm : (l, LCg.lst vs) ∈ news) (hb : (b, LCg.lst us) ∈ news) (hlen : vs.length = us.length)
    (he : ∀ (j : Nat) v u, vs[j]? = some v → us[j]? = some u → PySem.SeqAt.EqAt A.in1 s v u true) (hu : A.units < cLine) (h : Q (.bool false) s) :
    wpAny (model prog w) A (compareOp .NotEq (.ref l) (.ref b)) Q E s := by
  have i1 : s.heap.IsList l vs.toArray := ⟨_, (N _ hm).1, rfl, _, rfl⟩
  have i2 : s.heap.IsList b us.toArray := ⟨_, (N _ hb).1, rfl, _, rfl⟩
  refine PySem.SeqAt.RcNeAt.lists (e := fun _ => true) i1 i2 (by simpa using hlen) hu (fun j h1 h2 => ?_) prog w E Q ?_
  · exact he j _ _ (by simp at h1 ⊢) (by simp at h2 ⊢)
  · have e : (!(List.range vs.toArray.size).all fun _ => true) = false := by simp
    rw [e]; exact h
theorem ints_same {vs us : List Value} {ns : List Int} (hv : IntsAre vs ns) (hu : IntsAre us ns) : ∀ (j : Nat) v u, vs[j]? = some v → us[j]? = some u → PySem.SeqAt.EqAt A s v u true := by
  intro j v u h1 h2
  obtain ⟨x, t, rfl, hx⟩ := ints_get hv h1
  obtain ⟨y, t', rfl, hy⟩ := ints_get hu h2
  rw [hx] at hy; cases hy
  have := PySem.SeqAt.EqAt.int_int (A := A) (s := s) x t x t'
  rwa [beq_self_eq_true] at this
theorem compP_fix {elt : PySem.Expr} {x x₂ : Str} {scope : Scope} {cl : List (Str × Addr)} {S : List (Addr × Obj) → Prop} {P : Nat → Value → Prop} {Fin : List Value → List (Addr × Obj) → Prop} {n : Nat} (T : Nat → List Value → Prop) (h0 : T 0 []) (hS : S news)
    (turn : ∀ i ys v, i < n → T i ys → P i v → ∃ (t : Addr) (ot : Obj) (v₁ v₂ : Value) (nt : Nat), v = .ref t ∧ (t, ot) ∈ news ∧ ot.cls = .type "tuple" ∧ ot.data = .seq #[v₁, v₂] nt ∧
      ∀ I oI C oC D m₂ h tk (E' : Value → Shared → Prop) (Cb : Value → Shared → Prop), LCg.NsObj oC m₂ → m₂ x = some v₁ → m₂ x₂ = some v₂ → Fr h₀ L h m → News h₀ L h ((I, oI) :: (C, oC) :: (D, LCg.lst ys) :: news) →
      (∀ y h' tk', Fr h₀ L h' m → News h₀ L h' ((I, oI) :: (C, oC) :: (D, LCg.lst ys) :: news) → T (i + 1) (ys ++ [y]) → Cb y { s with heap := h', toks := tk' }) →
      wpAny (model prog w) A (eval elt (compEnvC scope cl C env)) Cb E' { s with heap := h, toks := tk })
    (fin : ∀ ys, T n ys → Fin ys news) : LCp.CompRestP prog w A h₀ L m env elt x x₂ scope cl s S P Fin n 0 [] news := by
  refine compP_ind (fun i ys nw => nw = news ∧ T i ys) ?_ ?_ n 0 [] news (Nat.zero_add n) ⟨rfl, h0⟩
  · rintro i ys nw v hi ⟨rfl, ht⟩ hv
    obtain ⟨t, ot, v₁, v₂, nt, e1, e2, e3, e4, go⟩ := turn i ys v hi ht hv
    exact ⟨t, ot, v₁, v₂, nt, e1, e2, e3, e4, fun I oI C oC D m₂ h tk E' hC hx hx2 F N off ne Cb hCb => go I oI C oC D m₂ h tk E' Cb hC hx hx2 F N fun y h' tk' F' N' ht' => hCb _ _ (LCg.CompEnd.intro F' N' _ (fun p hp => hp) off hS ⟨rfl, ht'⟩)⟩
  · rintro ys nw ⟨rfl, ht⟩
    exact fin ys ht
theorem compT_fix {ct elt : PySem.Expr} {x : Str} {scope : Scope} {cl : List (Str × Addr)} {P : Nat → Value → Prop} {Fin : List Value → List (Addr × Obj) → Prop} {n : Nat} (T : Nat → List Value → Prop) (h0 : T 0 [])
    (turn : ∀ i ys v I oI C oC D m₂ h tk (E' : Value → Shared → Prop) (Cb : Value → Shared → Prop) (Cn : Shared → Prop), i < n → T i ys → P i v → LCg.NsObj oC m₂ → m₂ x = some v → Fr h₀ L h m → News h₀ L h ((I, oI) :: (C, oC) :: (D, LCg.lst ys) :: news) →
      (∀ y h' tk', Fr h₀ L h' m → News h₀ L h' ((I, oI) :: (C, oC) :: (D, LCg.lst ys) :: news) → T (i + 1) (ys ++ [y]) → Cb y { s with heap := h', toks := tk' }) →
      (∀ h' tk', Fr h₀ L h' m → News h₀ L h' ((I, oI) :: (C, oC) :: (D, LCg.lst ys) :: news) → T (i + 1) ys → Cn { s with heap := h', toks := tk' }) →
      wpAny (model prog w) A (isTrue ct (compEnvC scope cl C env) (eval ct (compEnvC scope cl C env))) (fun ok s' => if ok = true then wpAny (model prog w) A (eval elt (compEnvC scope cl C env)) Cb E' s' else Cn s') E' { s with heap := h, toks := tk })
    (fin : ∀ ys, T n ys → Fin ys news) : LCt.CompRestT prog w A h₀ L m env ct elt x scope cl s (fun _ => True) P Fin n 0 [] news := by
  refine compT_ind (fun i ys nw => nw = news ∧ T i ys) ?_ ?_ n 0 [] news (Nat.zero_add n) ⟨rfl, h0⟩
  · rintro i ys nw v I oI C oC D m₂ h tk E' hi ⟨rfl, ht⟩ hv hC hx F N off ne Cb Cn hCb hCn
    exact turn i ys v I oI C oC D m₂ h tk E' Cb Cn hi ht hv hC hx F N (fun y h' tk' F' N' ht' => hCb _ _ (LCg.CompEnd.intro F' N' _ (fun p hp => hp) off trivial ⟨rfl, ht'⟩)) (fun h' tk' F' N' ht' => hCn _ (LCg.CompEnd.intro F' N' _ (fun p hp => hp) off trivial ⟨rfl, ht'⟩))
  · rintro ys nw ⟨rfl, ht⟩
    exact fin ys ht
end
section
variable {w : World} {mean : ExcName → Option Value} {mg mb : Str → Option Value} {dp un : Nat} {gd : Option (List Code)} {cn : Str} {cs : Scope} {a : Addr} {ccd : Value} {cl : List (Str × Addr)} {outer : List Env} {A₀ : Around} {base h₀ : Heap} {L : Addr} {m : Str → Option Value} {s : Shared}
  {news : List (Addr × Obj)} {xm dm wd xh dh fl : Addr} {z1 z2 z3 z4 z5 z6 : Int} {k1 k2 t1 k3 k4 t4 k5 t5 k6 : Tok} {n n' : Nat} {o : Obj} {W : Int → Int}
set_option maxHeartbeats 8000000 in
theorem is_marked_ok {r : Int} {t : Tok} {Q E : Value → Shared → Prop}
    (B : Below A₀ base outer h₀) (F : Fr h₀ L s.heap m) (X : (hd.heap_39 w.params).In h₀) (T : TopH mean mg mb h₀) (hk : cs.kind = .function) (hd : dp + 8 < recursionLimit) (hu : un + 80 < cLine)
    (N : News h₀ L s.heap news) (i1 : (xm, memObj dm) ∈ news) (i2 : (dm, memDict z1 k1 t1 z2 k2 wd n) ∈ news) (i3 : (wd, o) ∈ news)
    (i4 : (xh, heapObj dh) ∈ news) (i5 : (dh, heapDict z3 k3 xm z4 k4 t4 z5 k5 t5 z6 k6 fl n') ∈ news) (hlo : (wd == sysModules) = false) (hM : MemIs w o W)
    (h0 : 8 ≤ r) (h1 : r < 8192)
    (ret : ∀ h' tk', Same [] s.heap h' → Q (.bool (decide (W ((r + -4) / 4) ≠ 0))) { s with heap := h', toks := tk' }) :
    wpAny (model pw w) (ktrTop dp un gd cn cs L a ccd cl outer) (call (.ref 56) [.ref xh, .int r t]) Q E s := by
  k_dflt walk_at "NU enter"
  intro g' L' h' Qb hg' hL' hQ hQn F' N' B' X' T'
  (try dsimp only); (try k_lift B'); (try k_fold)
  k_steps
  rename Fr _ _ _ _ => F9
  rename News _ _ _ _ => N9
  refine hQ _ _ (retB ?_ (ret _ _ (same_end0 hg' F9 N9 N)))
  rw [Bool.eq_iff_iff]; simp
end
example : True := by
  (k_with "call ref" => (k_here; (with_reducible show wpAny _ _ (call (Value.ref 56) _ _) _ _ _); k_dflt (refine' is_marked_ok ?B ?F ?X ?T ?hk ?hd ?hu ?N ?i1 ?i2 ?i3 ?i4 ?i5 ?hlo ?hM ?h0 ?h1 ?_; walk_at "NU prem5"; (case h0 => first | decide | assumption | omega); (case h1 => first | decide | assumption | omega); k_whole; walk_at "NU sameB")))
  trivial


example : True := by (w_top off); trivial
example : True := by
  (k_with "compareOp NotEq ref ref" => (refine hold ?_))
  (k_with "exec Assign cons ListComp" => (refine hold ?_))
  (k_with "eval ListComp" => (refine hold ?_))
  (k_with "SrcLP" => (refine hold ?_))
  (k_with "StrideSrc" => (refine hold ?_))
  trivial
theorem KindIn.v {S : List Addr} {ex : List (Addr × Obj)} {h : Heap} {v : Value} {k : Kd} (hx : ∀ p ∈ ex, h.get? p.1 = some p.2 ∧ p.1 ∉ S) : KindIn ex v k → KindV S h v k :=
  fun ⟨oa, t1, t2, ovs, no, e, a, b, c⟩ => ⟨k.ad, e, oa, t1, t2, (hx _ a).1, (hx _ a).2, ⟨ovs, no, (hx _ b).1, c, (hx _ b).2⟩, rfl⟩
def RecLed (ex : List (Addr × Obj)) (v : Value) (c : Rc) : Prop := ∃ ra t oa t1 t2 ovs no, v = .ref ra ∧ (ra, tupO [.int c.r t, .ref c.k.ad]) ∈ ex ∧ (c.k.ad, tupO [.int c.k.wh t1, .int c.k.wide t2, .ref oa]) ∈ ex ∧ (oa, listOf (List.toArray ovs) no) ∈ ex ∧ IntsAre ovs c.k.offs
theorem RecLed.v {S : List Addr} {ex : List (Addr × Obj)} {h : Heap} {v : Value} {c : Rc} (hx : ∀ p ∈ ex, h.get? p.1 = some p.2 ∧ p.1 ∉ S) : RecLed ex v c → RecV S h v c :=
  fun ⟨ra, t, oa, t1, t2, ovs, no, e, a, b, d, f⟩ => ⟨ra, e, t, c.k.ad, (hx _ a).1, (hx _ a).2, oa, t1, t2, (hx _ b).1, (hx _ b).2, ⟨ovs, no, (hx _ d).1, f, (hx _ d).2⟩, rfl⟩
theorem RecLed.short {ex : List (Addr × Obj)} {v : Value} {c : Rc} : RecLed ex v c → ∃ ra t, v = .ref ra ∧ (ra, tupO [.int c.r t, .ref c.k.ad]) ∈ ex :=
  fun ⟨ra, t, _, _, _, _, _, e, a, _⟩ => ⟨ra, t, e, a⟩
theorem ints_take {ys : List Value} {ns : List Int} {i : Nat} {x : Int} {t : Tok} (h : IntsAre ys (ns.take i)) (hx : ns[i]? = some x) : IntsAre (ys ++ [.int x t]) (ns.take (i + 1)) := by
  rw [List.take_add_one, hx]
  exact ints_snoc h
theorem ints_whole {ys : List Value} {ns : List Int} {n : Nat} (h : IntsAre ys (ns.take n)) (hn : n = ns.length) : IntsAre ys ns := by
  rw [hn, List.take_length] at h; exact h
theorem bools_take {ys : List Value} {bs : List Bool} {i : Nat} {b : Bool} (h : ys = (bs.take i).map Value.bool) (hx : bs[i]? = some b) : ys ++ [.bool b] = (bs.take (i + 1)).map Value.bool := by
  rw [h, List.take_add_one, hx, List.map_append]; rfl
theorem bools_whole {ys : List Value} {bs : List Bool} {n : Nat} (h : ys = (bs.take n).map Value.bool) (hn : n = bs.length) : ys = bs.map Value.bool := by
  rw [hn, List.take_length] at h; exact h
theorem rel_led {S : List Addr} {h : Heap} {exr exk ex : List (Addr × Obj)} {rvs kvs : List Value} {rs : List Rc} {ks : List Kd} (hR : Rel2 (RecIn S h exr) rvs rs) (hK : Rel2 (KindIn exk) kvs ks) (hin : ∀ c ∈ rs, c.k ∈ ks) (h1 : ∀ p ∈ exr, p ∈ ex) (h2 : ∀ p ∈ exk, p ∈ ex) : Rel2 (RecLed ex) rvs rs := by
  refine ⟨hR.1, fun i v c hv hc => ?_⟩
  obtain ⟨ra, t, ta, e, a, oa, t1, t2, _, _, _, q⟩ := hR.2 i v c hv hc
  subst q
  obtain ⟨j, hj⟩ := List.getElem?_of_mem (hin c (List.mem_of_getElem? hc))
  have hjl : j < kvs.length := by
    rw [hK.1]
    rcases Nat.lt_or_ge j ks.length with z | z
    · exact z
    · rw [List.getElem?_eq_none z] at hj; cases hj
  obtain ⟨oa', t1', t2', ovs, no, _, b, d, f⟩ := hK.2 j _ _ (List.getElem?_eq_getElem hjl) hj
  exact ⟨ra, t, oa', t1', t2', ovs, no, e, h1 _ a, h2 _ b, h2 _ d, f⟩
theorem apart_of {h₀ h : Heap} {L : Addr} {news ex : List (Addr × Obj)} {q : Addr × Obj} (N : News h₀ L h news) (hx : ∀ p ∈ ex, h.get? p.1 = none) (hm : q ∈ news) : ∀ p ∈ ex, p.1 ≠ q.1 := fun p hp e => by
  have a := hx p hp
  rw [e, (N q hm).1] at a; cases a
/-- the cells a b c stand off the three that change -/
structure CellAp (a b c d e f : Addr) : Prop where
  ad : a < d
  ae : a < e
  af : a < f
  bd : b < d
  be : b < e
  bf : b < f
  cd : c < d
  ce : c < e
  cf : c < f
/-- the law's ledger: three cells, the words, the free list, the hand, the rest -/
inductive LawLed (h₀ h : Heap) (L a b c d e f : Addr) (oa ob oc o q r : Obj) (nw im' : List (Addr × Obj)) : Prop
  | mk (im : List (Addr × Obj)) (N : News h₀ L h ((a, oa) :: (b, ob) :: (c, oc) :: (d, o) :: (e, q) :: (f, r) :: im)) (xa : ∀ p ∈ im, p.1 ≠ a) (xb : ∀ p ∈ im, p.1 ≠ b) (xc : ∀ p ∈ im, p.1 ≠ c) (xd : ∀ p ∈ im, p.1 ≠ d) (xe : ∀ p ∈ im, p.1 ≠ e) (xf : ∀ p ∈ im, p.1 ≠ f)
      (s1 : ∀ p ∈ im', p ∈ im) (s2 : ∀ p ∈ nw, p ∈ im) : LawLed h₀ h L a b c d e f oa ob oc o q r nw im'
theorem LawLed.next {h₀ h h' : Heap} {L a b c d e f : Addr} {oa ob oc o q r o' q' r' : Obj} {m : Str → Option Value} {im nw : List (Addr × Obj)} (F : Fr h₀ L h m) (N : News h₀ L h ((a, oa) :: (b, ob) :: (c, oc) :: (d, o) :: (e, q) :: (f, r) :: im)) (A : CellAp a b c d e f)
    (xa : ∀ p ∈ im, p.1 ≠ a) (xb : ∀ p ∈ im, p.1 ≠ b) (xc : ∀ p ∈ im, p.1 ≠ c) (xd : ∀ p ∈ im, p.1 ≠ d) (xe : ∀ p ∈ im, p.1 ≠ e) (xf : ∀ p ∈ im, p.1 ≠ f)
    (S : Same [d, e, f] h h') (hd : h'.get? d = some o') (he : h'.get? e = some q') (hf : h'.get? f = some r') (new : ∀ p ∈ nw, h'.get? p.1 = some p.2 ∧ h.get? p.1 = none) : LawLed h₀ h' L a b c d e f oa ob oc o' q' r' nw im := by
  have st : ∀ {p : Addr × Obj}, p ∈ (a, oa) :: (b, ob) :: (c, oc) :: (d, o) :: (e, q) :: (f, r) :: im → p.1 ≠ d → p.1 ≠ e → p.1 ≠ f → h'.get? p.1 = some p.2 ∧ p.1 ≠ L ∧ h₀.get? p.1 = none := fun {p} hp n1 n2 n3 => ⟨S _ _ (fun z => (List.mem_cons.mp z).elim n1 fun z => (List.mem_cons.mp z).elim n2 fun z => n3 (List.mem_singleton.mp z)) (N p hp).1, (N p hp).2⟩
  have ap : ∀ {x : Addr} {y : Obj}, (x, y) ∈ (a, oa) :: (b, ob) :: (c, oc) :: (d, o) :: (e, q) :: (f, r) :: im → ∀ p ∈ nw, p.1 ≠ x := fun hm => apart_of N (fun p hp => (new p hp).2) hm
  refine ⟨nw ++ im, ?_, app_all (ap (.head _)) xa, app_all (ap (.tail _ (.head _))) xb, app_all (ap (.tail _ (.tail _ (.head _)))) xc, app_all (ap (.tail _ (.tail _ (.tail _ (.head _))))) xd, app_all (ap (.tail _ (.tail _ (.tail _ (.tail _ (.head _)))))) xe, app_all (ap (.tail _ (.tail _ (.tail _ (.tail _ (.tail _ (.head _))))))) xf, fun p hp => List.mem_append_right _ hp, fun p hp => List.mem_append_left _ hp⟩
  intro p hp
  rcases List.mem_cons.mp hp with rfl | hp
  · exact st (.head _) (neLt A.ad) (neLt A.ae) (neLt A.af)
  rcases List.mem_cons.mp hp with rfl | hp
  · exact st (.tail _ (.head _)) (neLt A.bd) (neLt A.be) (neLt A.bf)
  rcases List.mem_cons.mp hp with rfl | hp
  · exact st (.tail _ (.tail _ (.head _))) (neLt A.cd) (neLt A.ce) (neLt A.cf)
  rcases List.mem_cons.mp hp with rfl | hp
  · exact ⟨hd, (N (d, o) (.tail _ (.tail _ (.tail _ (.head _))))).2⟩
  rcases List.mem_cons.mp hp with rfl | hp
  · exact ⟨he, (N (e, q) (.tail _ (.tail _ (.tail _ (.tail _ (.head _)))))).2⟩
  rcases List.mem_cons.mp hp with rfl | hp
  · exact ⟨hf, (N (f, r) (.tail _ (.tail _ (.tail _ (.tail _ (.tail _ (.head _))))))).2⟩
  rcases List.mem_append.mp hp with hp | hp
  · exact news_fresh F new p hp
  · exact st (.tail _ (.tail _ (.tail _ (.tail _ (.tail _ (.tail _ hp)))))) (xd p hp) (xe p hp) (xf p hp)
theorem fr_law {h₀ h h' : Heap} {L d e f : Addr} {o q r : Obj} {A B C : Addr × Obj} {m : Str → Option Value} {im : List (Addr × Obj)} (F : Fr h₀ L h m) (N : News h₀ L h (A :: B :: C :: (d, o) :: (e, q) :: (f, r) :: im)) (S : Same [d, e, f] h h') : Fr h₀ L h' m :=
  Fr.same F S fun b z => (List.mem_cons.mp z).elim (fun x => by rw [x]; exact (N (d, o) (.tail _ (.tail _ (.tail _ (.head _))))).2) fun z => (List.mem_cons.mp z).elim (fun x => by rw [x]; exact (N (e, q) (.tail _ (.tail _ (.tail _ (.tail _ (.head _)))))).2) fun z => by
    rw [List.mem_singleton.mp z]; exact (N (f, r) (.tail _ (.tail _ (.tail _ (.tail _ (.tail _ (.head _))))))).2
theorem Same.of2 {d e f : Addr} {h h' : Heap} (S : Same [d, f] h h') : Same [d, e, f] h h' := Same.mono S fun b hb => (List.mem_cons.mp hb).elim (fun x => by rw [x]; exact .head _) fun z => .tail _ (.tail _ z)
theorem Same.of1 {d e f : Addr} {h h' : Heap} (S : Same [f] h h') : Same [d, e, f] h h' := Same.mono S fun b hb => .tail _ (.tail _ hb)
theorem Same.of0 {d e f : Addr} {h h' : Heap} (S : Same [] h h') : Same [d, e, f] h h' := Same.mono S fun b hb => nomatch hb
theorem nin2 {a d f : Addr} (h1 : a ≠ d) (h2 : a ≠ f) : a ∉ [d, f] := fun z => (List.mem_cons.mp z).elim h1 fun z => h2 (List.mem_singleton.mp z)
theorem nin1 {a f : Addr} (h2 : a ≠ f) : a ∉ [f] := fun z => h2 (List.mem_singleton.mp z)
theorem law_led0 {h₀ h h' : Heap} {L a b c ah ac ta xm dm wd ak xh dh fl : Addr} {oa ob oc oh oh' lc o of t1 t2 t3 t4 t5 t6 : Obj} {m : Str → Option Value} {exk : List (Addr × Obj)} (F : Fr h₀ L h m) (N : News h₀ L h [(ah, oh), (ac, lc), (a, oa), (b, ob), (c, oc)])
    (S : Same [ah] h h') (hf : h'.get? ah = some oh') (AL : ∀ p ∈ (ta, t1) :: (fl, of) :: (xh, t2) :: (dh, t3) :: (ak, t4) :: (wd, o) :: (xm, t5) :: (dm, t6) :: exk, h'.get? p.1 = some p.2 ∧ h.get? p.1 = none)
    (ha : a < ac) (hb : b < ac) (hc : c < ac) (hab : b ≠ a) (hac : c ≠ a) (hbc : c ≠ b) (l0 : ac < ah) (l1 : ah < dm) (l2 : dm < xm) (l3 : xm < wd) (l4 : wd < ak) (l5 : ak < dh) (l6 : dh < xh) (l7 : xh < fl) (l8 : fl < ta) (EX : ∀ p ∈ exk, (p.1 ≠ ak ∧ p.1 ≠ wd ∧ p.1 ≠ xm ∧ p.1 ≠ dm ∧ p.1 ≠ ah ∧ p.1 ≠ ac) ∧ p.1 < dh) :
    LawLed h₀ h' L a b c wd fl ah oa ob oc o of oh' ((ta, t1) :: (xh, t2) :: (dh, t3) :: (ak, t4) :: (xm, t5) :: (dm, t6) :: (ac, lc) :: exk) [] ∧ CellAp a b c wd fl ah := by
  have d1 := Nat.lt_trans l2 l3; have d2 := Nat.lt_trans l1 d1; have d3 := Nat.lt_trans l0 d2; have d4 := Nat.lt_trans l4 l5; have d5 := Nat.lt_trans d4 l6; have d6 := Nat.lt_trans d5 l7; have d7 := Nat.lt_trans d6 l8
  have e1 := Nat.lt_trans l1 l2; have e2 := Nat.lt_trans d2 l4; have e3 := Nat.lt_trans e2 l5; have e4 := Nat.lt_trans e3 l6; have e5 := Nat.lt_trans e4 l7; have e6 := Nat.lt_trans e5 l8
  have f1 := Nat.lt_trans l6 l7; have f2 := Nat.lt_trans l5 f1; have f3 := Nat.lt_trans l3 d6; have f4 := Nat.lt_trans d1 d6; have f5 := Nat.lt_trans l0 e5
  have A : CellAp a b c wd fl ah := ⟨Nat.lt_trans ha d3, Nat.lt_trans ha f5, Nat.lt_trans ha l0, Nat.lt_trans hb d3, Nat.lt_trans hb f5, Nat.lt_trans hb l0, Nat.lt_trans hc d3, Nat.lt_trans hc f5, Nat.lt_trans hc l0⟩
  have st : ∀ {p : Addr × Obj}, p ∈ [(ah, oh), (ac, lc), (a, oa), (b, ob), (c, oc)] → p.1 ≠ ah → h'.get? p.1 = some p.2 ∧ p.1 ≠ L ∧ h₀.get? p.1 = none := fun {p} hp n1 => ⟨S _ _ (fun z => n1 (List.mem_singleton.mp z)) (N p hp).1, (N p hp).2⟩
  have nw := news_fresh F AL
  have ap : ∀ {x : Addr} {y : Obj}, (x, y) ∈ [(ah, oh), (ac, lc), (a, oa), (b, ob), (c, oc)] → ∀ p ∈ (ta, t1) :: (fl, of) :: (xh, t2) :: (dh, t3) :: (ak, t4) :: (wd, o) :: (xm, t5) :: (dm, t6) :: exk, p.1 ≠ x := fun hm => apart_of N (fun p hp => (AL p hp).2) hm
  have sub : ∀ p ∈ (ta, t1) :: (xh, t2) :: (dh, t3) :: (ak, t4) :: (xm, t5) :: (dm, t6) :: (ac, lc) :: exk, p ∈ (ta, t1) :: (fl, of) :: (xh, t2) :: (dh, t3) :: (ak, t4) :: (wd, o) :: (xm, t5) :: (dm, t6) :: exk ∨ p = (ac, lc) := by
    intro p hp
    simp only [List.mem_cons] at hp ⊢
    rcases hp with h | h | h | h | h | h | h | h <;> simp only [h, true_or, or_true]
  have mka : ∀ {x : Addr} {y : Obj}, (x, y) ∈ [(ah, oh), (ac, lc), (a, oa), (b, ob), (c, oc)] → x < ac → ∀ p ∈ (ta, t1) :: (xh, t2) :: (dh, t3) :: (ak, t4) :: (xm, t5) :: (dm, t6) :: (ac, lc) :: exk, p.1 ≠ x := fun hm hlt p hp => (sub p hp).elim (ap hm p) fun e => by rw [e]; exact neGt hlt
  refine ⟨⟨(ta, t1) :: (xh, t2) :: (dh, t3) :: (ak, t4) :: (xm, t5) :: (dm, t6) :: (ac, lc) :: exk, ?_, mka (.tail _ (.tail _ (.head _))) ha, mka (.tail _ (.tail _ (.tail _ (.head _)))) hb, mka (.tail _ (.tail _ (.tail _ (.tail _ (.head _))))) hc, ?_, ?_, ?_, fun p hp => (nomatch hp), fun p hp => hp⟩, A⟩
  · intro p hp
    rcases List.mem_cons.mp hp with rfl | hp
    · exact st (.tail _ (.tail _ (.head _))) (neLt A.af)
    rcases List.mem_cons.mp hp with rfl | hp
    · exact st (.tail _ (.tail _ (.tail _ (.head _)))) (neLt A.bf)
    rcases List.mem_cons.mp hp with rfl | hp
    · exact st (.tail _ (.tail _ (.tail _ (.tail _ (.head _))))) (neLt A.cf)
    rcases List.mem_cons.mp hp with rfl | hp
    · exact nw _ (by simp)
    rcases List.mem_cons.mp hp with rfl | hp
    · exact nw _ (by simp)
    rcases List.mem_cons.mp hp with rfl | hp
    · exact ⟨hf, (N (ah, oh) (.head _)).2⟩
    exact (sub p hp).elim (nw p) fun e => by rw [e]; exact st (p := (ac, lc)) (.tail _ (.head _)) (neLt l0)
  · simp only [List.forall_mem_cons]
    exact ⟨neGt d7, neGt d5, neGt d4, neGt l4, neLt l3, neLt d1, neLt d3, fun p hp => (EX p hp).1.2.1⟩
  · simp only [List.forall_mem_cons]
    exact ⟨neGt l8, neLt l7, neLt f1, neLt f2, neLt f3, neLt f4, neLt f5, fun p hp => neLt (Nat.lt_trans (EX p hp).2 f1)⟩
  · simp only [List.forall_mem_cons]
    exact ⟨neGt e6, neGt e4, neGt e3, neGt e2, neGt e1, neGt l1, neLt l0, fun p hp => (EX p hp).1.2.2.2.2.1⟩
/-- an address off what the law keeps -/
structure OffL (ac ah dm xm wd ak dh xh fl ar a : Addr) : Prop where
  ac : a ≠ ac
  ah : a ≠ ah
  dm : a ≠ dm
  xm : a ≠ xm
  wd : a ≠ wd
  ak : a ≠ ak
  dh : a ≠ dh
  xh : a ≠ xh
  fl : a ≠ fl
  ar : a ≠ ar
theorem off9 {ac ah dm xm wd ak dh xh fl a : Addr} (l6 : dh < xh) (l7 : xh < fl) (h : (a ≠ ak ∧ a ≠ wd ∧ a ≠ xm ∧ a ≠ dm ∧ a ≠ ah ∧ a ≠ ac) ∧ a < dh) : a ∉ [ac, ah, dm, xm, wd, ak, dh, xh, fl] := by
  obtain ⟨⟨e1, e2, e3, e4, e5, e6⟩, e7⟩ := h
  have e8 := Nat.lt_trans e7 l6
  simp only [List.mem_cons, List.not_mem_nil, or_false, not_or]
  exact ⟨e6, e5, e4, e3, e2, e1, neLt e7, neLt e8, neLt (Nat.lt_trans e8 l7)⟩
/-- the records' tuples with their kinds' -/
inductive LawRecs (ac ah dm xm wd ak dh xh fl ar : Addr) (rvs : List Value) (rs : List Rc) (im : List (Addr × Obj)) : Prop
  | mk (ex : List (Addr × Obj)) (off : ∀ p ∈ ex, OffL ac ah dm xm wd ak dh xh fl ar p.1) (sub : ∀ p ∈ ex, p ∈ im) (rel : Rel2 (RecLed ex) rvs rs) : LawRecs ac ah dm xm wd ak dh xh fl ar rvs rs im
theorem law_recs {S : List Addr} {h sh : Heap} {exr exk im : List (Addr × Obj)} {rvs kvs : List Value} {rs : List Rc} {ks : List Kd} {ac ah dm xm wd ak dh xh fl ar : Addr} (hR : Rel2 (RecIn S h exr) rvs rs) (hK : Rel2 (KindIn exk) kvs ks) (hin : ∀ c ∈ rs, c.k ∈ ks)
    (EX : ∀ p ∈ exk, (p.1 ≠ ak ∧ p.1 ≠ wd ∧ p.1 ≠ xm ∧ p.1 ≠ dm ∧ p.1 ≠ ah ∧ p.1 ≠ ac) ∧ p.1 < dh) (EXr : ∀ p ∈ exr, h.get? p.1 = some p.2 ∧ sh.get? p.1 = none ∧ ar < p.1) (l0 : ac < ah) (l1 : ah < dm) (l2 : dm < xm) (l3 : xm < wd) (l4 : wd < ak) (l5 : ak < dh) (l6 : dh < xh) (l7 : xh < fl) (l8 : fl < ar)
    (s1 : ∀ p ∈ exk, p ∈ im) (s2 : ∀ p ∈ exr, p ∈ im) : LawRecs ac ah dm xm wd ak dh xh fl ar rvs rs im := by
  refine ⟨exk ++ exr, app_all (fun p hp => ?_) (fun p hp => ?_), app_all s1 s2, rel_led hR hK hin (fun p hp => List.mem_append_right _ hp) (fun p hp => List.mem_append_left _ hp)⟩
  · obtain ⟨⟨e1, e2, e3, e4, e5, e6⟩, e7⟩ := EX p hp
    have e8 := Nat.lt_trans e7 l6
    have e9 := Nat.lt_trans e8 l7
    exact ⟨e6, e5, e4, e3, e2, e1, neLt e7, neLt e8, neLt e9, neLt (Nat.lt_trans e9 l8)⟩
  · have e7 := (EXr p hp).2.2
    have f9 := Nat.lt_trans l8 e7
    have f8 := Nat.lt_trans l7 f9
    have f7 := Nat.lt_trans l6 f8
    have f6 := Nat.lt_trans l5 f7
    have f5 := Nat.lt_trans l4 f6
    have f4 := Nat.lt_trans l3 f5
    have f3 := Nat.lt_trans l2 f4
    have f2 := Nat.lt_trans l1 f3
    exact ⟨neGt (Nat.lt_trans l0 f2), neGt f2, neGt f3, neGt f4, neGt f5, neGt f6, neGt f7, neGt f8, neGt f9, neGt e7⟩
theorem rec_rel {S : List Addr} {ex im : List (Addr × Obj)} {A B C D E G : Addr × Obj} {h₀ h : Heap} {L : Addr} {rvs : List Value} {rs : List Rc} (RL : Rel2 (RecLed ex) rvs rs) (N : News h₀ L h (A :: B :: C :: D :: E :: G :: im)) (sub : ∀ p ∈ ex, p ∈ im) (off : ∀ p ∈ ex, p.1 ∉ S) : Rel2 (RecV S h) rvs rs :=
  RL.mono fun _ _ => RecLed.v (fun p hp => ⟨(N p (.tail _ (.tail _ (.tail _ (.tail _ (.tail _ (.tail _ (sub p hp)))))))).1, off p hp⟩)
theorem OffL.nin {ac ah dm xm wd ak dh xh fl ar a : Addr} (h : OffL ac ah dm xm wd ak dh xh fl ar a) : a ∉ [ac, ah, dm, xm, wd, ak, dh, xh, fl, ar] := by
  simp only [List.mem_cons, List.not_mem_nil, or_false, not_or]
  exact ⟨h.ac, h.ah, h.dm, h.xm, h.wd, h.ak, h.dh, h.xh, h.fl, h.ar⟩
theorem OffL.nin' {ac ah dm xm wd ak dh xh fl ar ro a : Addr} (h : OffL ac ah dm xm wd ak dh xh fl ar a) (n : a ≠ ro) : a ∉ [ac, ah, dm, xm, wd, ak, dh, xh, fl, ar, ro] := by
  simp only [List.mem_cons, List.not_mem_nil, or_false, not_or]
  exact ⟨h.ac, h.ah, h.dm, h.xm, h.wd, h.ak, h.dh, h.xh, h.fl, h.ar, n⟩
def wl (W : Int → Int) (ms : List Int) (j : Nat) : List Int := ((List.range j).filter (fun i : Nat => decide (¬ (64 + (i : Int) * 4) ∈ ms))).map (fun i : Nat => W ((64 + (i : Int) * 4) / 4))
theorem wl_in {W : Int → Int} {ms : List Int} {j : Nat} (h : ¬ ¬ (64 + (j : Int) * 4) ∈ ms) : wl W ms (j + 1) = wl W ms j := by
  unfold wl
  rw [List.range_succ, List.filter_append, List.filter_cons_of_neg (by simpa using h)]
  simp
theorem wl_out {W : Int → Int} {ms : List Int} {j : Nat} (h : ¬ (64 + (j : Int) * 4) ∈ ms) : wl W ms (j + 1) = wl W ms j ++ [W ((64 + (j : Int) * 4) / 4)] := by
  unfold wl
  rw [List.range_succ, List.filter_append, List.filter_cons_of_pos (by simpa using h)]
  simp
theorem wl_congr {W W' : Int → Int} {ms : List Int} : ∀ {n : Nat}, (∀ j : Nat, j < n → ¬ (64 + (j : Int) * 4) ∈ ms → W ((64 + (j : Int) * 4) / 4) = W' ((64 + (j : Int) * 4) / 4)) → wl W ms n = wl W' ms n := by
  intro n
  induction n with
  | zero => intro _; rfl
  | succ n ih =>
    intro h
    have e := ih fun j hj => h j (Nat.lt_succ_of_lt hj)
    by_cases q : (64 + (n : Int) * 4) ∈ ms
    · rw [wl_in (fun z => z q), wl_in (fun z => z q), e]
    · rw [wl_out q, wl_out q, e, h n (Nat.lt_succ_self _) q]
theorem news_tl {h₀ h : Heap} {L : Addr} {q : Addr × Obj} {l : List (Addr × Obj)} (N : News h₀ L h (q :: l)) : News h₀ L h l := fun p hp => N p (.tail _ hp)
theorem hand_start {ac : Addr} {n : Nat} {x : Int} {t1 t2 t3 : Tok} {len : Nat} : HandOk (listOf #[.ref ac, .int 0 t1, .int 0 t2, .int (x.fmod 100003 * 7) t3] n) ac len := by
  have := fm_rng (x := x) (k := 100003) (by decide)
  exact ⟨0, 0, _, t1, t2, t3, ⟨rfl, _, rfl⟩, Int.le_refl _, by omega, Int.le_refl _, by omega, by omega⟩

theorem wl_same {W W' : Int → Int} {rs : List Rc} {e : Int} {n : Nat} (hL : Lay W rs e) (h : ∀ p, (∀ c ∈ rs, p ≠ mkp c) → W' p = W p) : wl W' (rs.map (fun c => c.r - 4)) n = wl W (rs.map (fun c => c.r - 4)) n :=
  wl_congr fun j _ hn => h _ fun c hc q => by
    refine hn ?_
    have := (hL.apart hc hc).2.1
    unfold mkp at q
    have e : 64 + (j : Int) * 4 = c.r - 4 := by omega
    rw [e]
    exact List.mem_map_of_mem (f := fun c : Rc => c.r - 4) hc
theorem Lay.offb_rng {W : Int → Int} {rs : List Rc} {e : Int} (h : Lay W rs e) {c : Rc} (hc : c ∈ rs) {o : Int} (ho : o ∈ c.k.offs) : 0 ≤ c.r + o ∧ c.r + o < 8192 := by
  have a := h.offb hc ho
  have b := h.lim hc
  have d := (h.kind c hc).w1
  omega
set_option maxHeartbeats 8000000 in
theorem law_holds : PySem.Challenge.rw_nu0327_01.Holds := NuMark.hd (by
  k_go0
  all_goals try k_fold
  k_steps
  rename Fr _ _ _ _ => F9
  rename News _ _ _ _ => N9
  rename IntsAre _ (List.take 63 _) => hi9
  rename_i c3 hc3 hh5 ac cv h91 hmin hle lac h92 h93 tk9 t9 ah h94 lah h95
  have l0 : ac < ah := lah _ (.head _)
  refine hold_out ?_
  k_dflt (refine' area_ok (ac := ac) (cv := cv) ?B ?F ?X ?T ?hk ?hd ?hu ?N ?j1 ?j2 ?i ?H ?l ?l1 ?_)
  case B => k_asm
  case F => k_asm
  case X => k_asm
  case T => k_asm
  case hk => first | exact rfl | assumption
  case hd => ktr_room
  case hu => ktr_units
  case N => k_asm
  case j1 => k_mem
  case j2 => k_mem
  case i => exact hi9
  case H => exact hand_start
  case l => omega
  case l1 => exact l0
  intro ta xm dm wd ak xh dh fl z1 k1 t1 z2 k2 n z3 k3 z4 k4 t4 z5 k5 t5 z6 k6 n' kvs nk ks exk W f o' of' oh' h' tk' S1 G1 H1 M1 Lf1 FS1 KO1 kl1 kl4 RK1 AL1 l1 l2 l3 l4 l5 l6 l7 l8 EX1 lo
  have hln : (List.take 63 _).length ≤ 63 := Nat.le_trans (Nat.le_of_eq hmin) (Nat.min_le_left _ _)
  obtain ⟨⟨im, N10, xa, xb, xc, xd, xe, xf, _, s2⟩, CA⟩ := law_led0 F9 N9 S1 G1 AL1 lac.1 lac.2.1 lac.2.2 (Nat.ne_of_lt (Nat.lt_succ_self _)) (Nat.ne_of_lt (Nat.lt_succ_of_lt (Nat.lt_succ_self _))) (Nat.ne_of_lt (Nat.lt_succ_self _)) l0 l1 l2 l3 l4 l5 l6 l7 l8 EX1
  have F10 := Fr.same1 F9 N9 (by k_mem) S1
  obtain ⟨m0, F11⟩ : ∃ m0 : Str → Option Value, Fr _ _ h' (fun y => match List.lookup y [((Str.ofString "hand" : Str), (.ref ah : Value))] with | some v => some v | none => m0 y) := ⟨_, fr_over _ (by rfl) F10⟩
  have vta := s2 _ (.head _)
  have vxh := s2 _ (.tail _ (.head _))
  have vdh := s2 _ (.tail _ (.tail _ (.head _)))
  have vak := s2 _ (.tail _ (.tail _ (.tail _ (.head _))))
  have vxm := s2 _ (.tail _ (.tail _ (.tail _ (.tail _ (.head _)))))
  have vdm := s2 _ (.tail _ (.tail _ (.tail _ (.tail _ (.tail _ (.head _))))))
  have vac := s2 _ (.tail _ (.tail _ (.tail _ (.tail _ (.tail _ (.tail _ (.head _)))))))
  have vek : ∀ p ∈ exk, p ∈ im := fun p hp => s2 _ (.tail _ (.tail _ (.tail _ (.tail _ (.tail _ (.tail _ (.tail _ hp)))))))
  clear F9 N9 F10 S1 G1 AL1 s2
  have lbf := Nat.lt_trans l1 (Nat.lt_trans l2 l3)
  have lde := Nat.lt_trans l4 (Nat.lt_trans l5 (Nat.lt_trans l6 l7))
  have lef := Nat.lt_trans lbf lde
  have c1 := CA.af; have c2 := CA.bf; have c3 := CA.cf; have c4 := CA.ad; have c5 := CA.bd; have c6 := CA.cd; have c7 := CA.ae; have c8 := CA.be; have c9 := CA.ce
  k_steps
  rename Fr _ _ _ _ => F9
  rename News _ _ _ _ => N9
  rename HandOk _ _ _ => H9
  rename_i d9 t91 h96 tk91 o91 p9 q9
  refine hold_out ?_
  k_dflt (refine' made_ok (ac := ac) (cv := cv) (ks := ks) ?B ?F ?X ?T ?hk ?hd ?hu ?N ?i1 ?i2 ?i3 ?i4 ?i5 ?hlo ?hM ?i6 ?hF ?j1 ?j2 ?i ?H ?l ?j3 ?hK kl1 kl4 l0 l1 l2 l3 l4 l5 l6 l7 (madeInv ks) (MadeSt.start FS1 KO1) p9 (Int.le_of_lt_add_one q9) ?_)
  walk_at "NU prem5"
  case i6 => k_mem
  case hF => assumption
  case j1 => k_mem
  case j2 => k_mem
  case i => exact hi9
  case H => assumption
  case l => assumption
  case j3 => k_mem
  case hK => exact RK1.mono fun v k => KindIn.v (fun p hp => ⟨(N9 p (.tail _ (.tail _ (.tail _ (.tail _ (.tail _ (.tail _ (vek p hp)))))))).1, off9 l6 l7 (EX1 p hp)⟩)
  intro ar rvs nr rs exr W2 f2 e2 h2 tk2 o2 of2 oh2 S2 G2w G2f G2h M2 Lf2 H2 I2 hrn Gar lar Nar RR2 EXr
  obtain ⟨im2, N11, xa2, xb2, xc2, xd2, xe2, xf2, s1, s2⟩ := LawLed.next (nw := (ar, listOf (List.toArray rvs) nr) :: exr) F9 N9 CA xa xb xc xd xe xf S2 G2w G2f G2h (List.forall_mem_cons.mpr ⟨⟨Gar, Nar⟩, fun p hp => ⟨(EXr p hp).1, (EXr p hp).2.1⟩⟩)
  have F11 := fr_law F9 N9 S2
  obtain ⟨ex, EX3, sx, RL3⟩ := law_recs RR2 RK1 I2.kin EX1 EXr l0 l1 l2 l3 l4 l5 l6 l7 lar (fun p hp => s1 p (vek p hp)) (fun p hp => s2 p (.tail _ hp))
  replace vxh := s1 _ vxh
  replace vdh := s1 _ vdh
  replace vxm := s1 _ vxm
  replace vdm := s1 _ vdm
  replace vac := s1 _ vac
  have var := s2 _ (.head _)
  clear F9 N9 S2 G2w G2f G2h Gar Nar RR2 RK1 EX1 EXr xa xb xc xd xe xf vta vak vek s1 s2
  obtain ⟨m1, F12⟩ : ∃ m1 : Str → Option Value, Fr _ _ h2 (fun y => match List.lookup y [((Str.ofString "hand" : Str), (.ref ah : Value))] with | some v => some v | none => m1 y) := ⟨_, fr_over _ (by rfl) F11⟩
  clear F11
  have xh2 : wd < dh := Nat.lt_trans l4 l5
  have xh3 : xh < ar := Nat.lt_trans l7 lar
  k_steps
  rename Fr _ _ _ _ => F9
  rename News _ _ _ _ => N9
  refine hold_out ?_
  k_dflt (refine' filled_ok (ac := ac) (cv := cv) (rs := rs) (fl := fl) (ak := ak) (o := o2) ?B ?F ?X ?T ?hk ?hd ?hu ?N ?i1 ?i2 ?i3 ?i4 ?i5 ?hlo ?hM ?j1 ?j2 ?i ?H ?l ?j3 ?hR hrn l0 l1 l2 l3 xh2 l6 xh3 (fillInv rs e2) ⟨I2.lay, I2.mark⟩ ?_)
  walk_at "NU prem5"
  case j1 => k_mem
  case j2 => k_mem
  case i => exact hi9
  case H => assumption
  case l => assumption
  case j3 => k_mem
  case hR => exact rec_rel RL3 N9 sx fun p hp => (EX3 p hp).nin
  intro W3 h3 tk3 o3 oh3 S3 G3w G3h M3 H3 I3
  obtain ⟨im3, N12, xa3, xb3, xc3, xd3, xe3, xf3, s1, _⟩ := LawLed.next (nw := []) F9 N9 CA xa2 xb2 xc2 xd2 xe2 xf2 (Same.of2 S3) G3w (S3 _ _ (nin2 (neGt lde) (neGt lef)) (N9 (fl, of2) (.tail _ (.tail _ (.tail _ (.tail _ (.head _)))))).1) G3h (fun p hp => nomatch hp)
  have F12 := fr_law F9 N9 (Same.of2 S3)
  replace vxh := s1 _ vxh
  replace vdh := s1 _ vdh
  replace vxm := s1 _ vxm
  replace vdm := s1 _ vdm
  replace vac := s1 _ vac
  replace var := s1 _ var
  replace sx := fun p hp => s1 p (sx p hp)
  clear F9 N9 S3 G3w G3h xa2 xb2 xc2 xd2 xe2 xf2 s1 M2 H2 FS1 KO1
  obtain ⟨hL, hz⟩ := I3
  have hw : ∀ c ∈ rs, 0 ≤ c.k.wide ∧ c.k.wide < 900 := fun c hc => ⟨(hL.kind c hc).w0, Int.lt_of_le_of_lt (hL.kind c hc).w1 (by decide)⟩
  have l27 : ah < dh := Nat.lt_trans lbf xh2
  k_steps
  rename Fr _ _ _ _ => F9
  rename News _ _ _ _ => N9
  refine hold_out ?_
  k_dflt (refine' roots_ok (ac := ac) (cv := cv) (rs := rs) (fl := fl) (ak := ak) (dm := dm) (xm := xm) (wd := wd) ?B ?F ?X ?T ?hk ?hd ?hu ?N ?i4 ?i5 ?j1 ?j2 ?i ?H ?l ?j3 ?hR hrn l0 l27 l6 xh3 hw ?_)
  case B => k_asm
  case F => k_asm
  case X => k_asm
  case T => k_asm
  case hk => first | exact rfl | assumption
  case hd => ktr_room
  case hu => ktr_units
  case N => k_asm
  case i4 => k_mem
  case i5 => k_mem
  case j1 => k_mem
  case j2 => k_mem
  case i => exact hi9
  case H => assumption
  case l => assumption
  case j3 => k_mem
  case hR => exact rec_rel RL3 N9 sx fun p hp => (EX3 p hp).nin
  intro ro ovs ons no h4 tk4 oh4 S4 G4 H4 Gro IO4 hon lro Nro
  obtain ⟨im4, N13, xa4, xb4, xc4, xd4, xe4, xf4, s1, s2⟩ := LawLed.next (nw := [(ro, listOf (List.toArray ovs) no)]) F9 N9 CA xa3 xb3 xc3 xd3 xe3 xf3 (Same.of1 S4) (S4 _ _ (nin1 (neGt lbf)) (N9 (wd, o3) (.tail _ (.tail _ (.tail _ (.head _))))).1) (S4 _ _ (nin1 (neGt lef)) (N9 (fl, of2) (.tail _ (.tail _ (.tail _ (.tail _ (.head _)))))).1) G4 (fun p hp => by rw [List.mem_singleton.mp hp]; exact ⟨Gro, Nro⟩)
  have EX4 : ∀ p ∈ ex, p.1 ≠ ro := fun p hp => Ne.symm (apart_of (ex := [(ro, listOf (List.toArray ovs) no)]) N9 (fun q hq => by rw [List.mem_singleton.mp hq]; exact Nro) (q := p) (.tail _ (.tail _ (.tail _ (.tail _ (.tail _ (.tail _ (sx p hp))))))) _ (.head _))
  have F13 := fr_law F9 N9 (Same.of1 S4)
  replace vxh := s1 _ vxh
  replace vdh := s1 _ vdh
  replace vxm := s1 _ vxm
  replace vdm := s1 _ vdm
  replace var := s1 _ var
  have vro := s2 _ (.head _)
  replace sx := fun p hp => s1 p (sx p hp)
  clear F9 N9 S4 G4 Gro Nro H3 vac xa3 xb3 xc3 xd3 xe3 xf3 s1 s2
  k_steps
  rename Fr _ _ _ _ => F9
  rename News _ _ _ _ => N9
  refine hold_out ?_
  k_dflt (refine' reached_ok (P := Rch W3 rs ons) (rs := rs) (ons := ons) (fl := fl) (ak := ak) (ac := ac) (ah := ah) (o := o3) ?B ?F ?X ?T ?hk ?hd ?hu ?N ?i1 ?i2 ?i3 ?i4 ?i5 ?hlo ?hM ?j3 ?hR hrn ?j4 IO4 hon l2 l3 xh2 l6 xh3 lro hw (fun c hc o ho => hL.offb_rng hc ho) (fun x hx c hc hh => Rch.root hx hc hh) (fun c hc hp o ho hin => Rch.step hc hp ho hin) ?_)
  walk_at "NU prem5"
  case j3 => k_mem
  case hR => exact rec_rel RL3 N9 sx fun p hp => (EX3 p hp).nin' (EX4 p hp)
  case j4 => k_mem
  intro fd fvs fs nf h5 tk5 S5 Gfd IF5 lfd Nfd hri hroot hcl
  obtain ⟨im5, N14, xa5, xb5, xc5, xd5, xe5, xf5, s1, s2⟩ := LawLed.next (nw := [(fd, listOf (List.toArray fvs) nf)]) F9 N9 CA xa4 xb4 xc4 xd4 xe4 xf4 (Same.of0 S5) (S5 _ _ (fun z => nomatch z) (N9 (wd, o3) (.tail _ (.tail _ (.tail _ (.head _))))).1) (S5 _ _ (fun z => nomatch z) (N9 (fl, of2) (.tail _ (.tail _ (.tail _ (.tail _ (.head _)))))).1) (S5 _ _ (fun z => nomatch z) (N9 (ah, oh4) (.tail _ (.tail _ (.tail _ (.tail _ (.tail _ (.head _))))))).1) (fun p hp => by rw [List.mem_singleton.mp hp]; exact ⟨Gfd, Nfd⟩)
  have F14 := fr_law F9 N9 (Same.of0 S5)
  replace vxh := s1 _ vxh
  replace vdh := s1 _ vdh
  replace vxm := s1 _ vxm
  replace vdm := s1 _ vdm
  replace var := s1 _ var
  replace vro := s1 _ vro
  have vfd := s2 _ (.head _)
  replace sx := fun p hp => s1 p (sx p hp)
  have w1 : dm < wd := Nat.lt_trans l2 l3
  have w2 : wd < xh := Nat.lt_trans xh2 l6
  have w3 : wd < ro := Nat.lt_trans w2 (Nat.lt_trans xh3 lro)
  clear F9 N9 S5 Gfd Nfd xa4 xb4 xc4 xd4 xe4 xf4 s1 s2 H4 EX3 EX4
  k_steps
  rename Fr _ _ _ _ => F9
  rename News _ _ _ _ => N9
  refine hold_out (wpAny_Assign_Name ?_)
  refine LCp.ListComp_P (F₀ := F9) (by rfl) (by decide) (by rfl) (by decide) (by rfl) (by rfl) (by decide) ?_
  k_steps
  rename Fr _ _ _ _ => F9
  rename News _ _ _ _ => N9
  have hrl := RL3.1
  refine hold_out (LCp.SrcLP.ledger (by rfl) F9 N9 (by k_mem) (by rw [sizeLine_eq, List.size_toArray]; omega) (fun gg => compP_fix (n := rvs.toArray.size) (fun i ys => IntsAre ys ((rs.map (fun c => c.r - 4)).take i)) .nil (.inr ⟨_, by k_mem, rfl, _, rfl⟩) ?_ ?_))
  · clear F9 N9
    intro i ys v hi hys hv
    obtain ⟨c, hc, hled⟩ := RL3.get (by simpa using hv : rvs[i]? = some v)
    obtain ⟨ra, t7, rfl, b1⟩ := hled.short
    refine ⟨ra, _, .int c.r t7, .ref c.k.ad, _, rfl, .tail _ (.tail _ (.tail _ (.tail _ (.tail _ (.tail _ (sx _ b1)))))), rfl, rfl, ?_⟩
    intro I1 oI1 C1 oC1 D1 m2 h1 tk1 E1 Cb hC1 hx1' hx2' F1 N1 hCb
    k_steps
    rename Fr _ _ _ _ => F9
    rename News _ _ _ _ => N9
    exact hCb _ _ _ F9 N9 (ints_take hys (by rw [List.getElem?_map, hc]; rfl))
  · clear F9 N9
    intro ys hys
    intro D1 hD tkD FD ND offD
    have hys2 : IntsAre ys (rs.map (fun c => c.r - 4)) := ints_whole hys (by simp [hrl])
    have oD := Off1.mem offD
    have u1 : wd ≠ D1 := oD (wd, _) (.tail _ (.tail _ (.tail _ (.head _))))
    have u2 := oD _ (.head _)
    clear hys offD oD
    k_steps
    rename Fr _ _ _ _ => F9
    rename News _ _ _ _ => N9
    refine hold_out (assign_stride F9 (by rfl) (by rfl) (by with_unfolding_all rfl) (by decide) (by rfl) (by decide) (by rfl) (by rfl) (by rfl) ?_)
    k_steps
    rename Fr _ _ _ _ => F9
    rename News _ _ _ _ => N9
    rename IsRange _ _ _ _ _ _ _ _ => R9
    refine hold_out ⟨_, _, _, _, _, _, _, 360, _, rfl, by rfl, F9, N9, R9, small4 (by decide) (by decide) (by decide) (by decide), by rfl, by rw [sizeLine_eq]; decide, fun gg => compT_fix (fun j ys => IntsAre ys (wl W3 (rs.map (fun c => c.r - 4)) j)) .nil ?_ ?_⟩
    · clear F9 N9 R9
      intro i ys2 v I1 oI1 C1 oC1 D9 m2 h1 tk1 E1 Cb Cn hi hys hv hC1 hx1' F1 N1 hCb hCn
      obtain ⟨t8, rfl⟩ := hv
      k_steps
      all_goals (rename Fr _ _ _ _ => F9; rename News _ _ _ _ => N9)
      · rename (¬ _ ∈ _) => hnin
        exact hCb _ _ _ F9 N9 (by rw [wl_out hnin]; exact ints_snoc hys)
      · rename (¬ ¬ _ ∈ _) => hin
        exact hCn _ _ F9 N9 (by rw [wl_in hin]; exact hys)
    · clear F9 N9 R9
      intro ys2 hysb
      intro D2 hD2 tkD2 FD2 ND2 offD2
      have v1 := Off1.mem offD2 (wd, _) (.tail _ (.tail _ (.tail _ (.tail _ (.head _)))))
      replace v1 : wd ≠ D2 := v1
      clear offD2
      k_steps
      rename Fr _ _ _ _ => F9
      rename News _ _ _ _ => N9
      refine hold_out ?_
      k_dflt (refine' mark_ok (ax := ro) (vs := ovs) (ns := ons) (W := W3) (o := o3) ?B ?F ?X ?T ?hk ?hd ?hu ?N ?i1 ?i2 ?i3 ?i4 ?i5 ?hlo ?hM (neLt l3) (neLt w1) (neGt w2) (neGt xh2) ?i6 IO4 (neGt w3) (rootInv hL hz) ?_)
      walk_at "NU prem5"
      case i6 => k_mem
      intro c6 W6 t6' h6' tk6' o6' S6 G6 M6 R6
      have F15 := Fr.same1 F9 N9 (by k_mem) S6
      have N15 := News.same1 N9 (by k_upd) S6 G6
      clear F9 N9 S6 G6 M3
      have hall : ∀ c ∈ rs, (c.r ∈ fs ↔ W6 (mkp c) ≠ 0) := fun c hc => (found_all hL hri hroot hcl c hc).trans (R6.all hL c hc).symm
      have hcnt : c6 = (fs.length : Int) := R6.count hL hri hall
      subst hcnt
      have hfl := IF5.length
      have hfr := hri.len
      k_steps
      rename Fr _ _ _ _ => F9
      rename News _ _ _ _ => N9
      refine hold_out ?_
      refine LCp.ListComp_P (F₀ := F9) (by with_unfolding_all rfl) (by decide) (by rfl) (by decide) (by rfl) (by rfl) (by decide) ?_
      k_steps
      rename Fr _ _ _ _ => F9
      rename News _ _ _ _ => N9
      refine hold_out (LCp.SrcLP.ledger (by rfl) F9 N9 (by k_mem) (by rw [sizeLine_eq, List.size_toArray]; omega) (fun gg => compP_fix (n := rvs.toArray.size) (fun i ys => ys = ((rs.map (fun c => decide (W6 (mkp c) ≠ 0))).take i).map Value.bool) rfl (.inr ⟨_, by k_mem, rfl, _, rfl⟩) ?_ ?_))
      · clear F9 N9
        intro i ys9 v hi hys hv
        obtain ⟨c, hc, hled⟩ := RL3.get (by simpa using hv : rvs[i]? = some v)
        obtain ⟨ra, t7, rfl, b1⟩ := hled.short
        have hlim := hL.lim (List.mem_of_getElem? hc)
        refine ⟨ra, _, .int c.r t7, .ref c.k.ad, _, rfl, by repeat (first | exact sx _ b1 | refine .tail _ ?_), rfl, rfl, ?_⟩
        intro I1 oI1 C1 oC1 D9 m2 h1 tk1 E1 Cb hC1 hx1' hx2' F1 N1 hCb
        k_steps
        rename Fr _ _ _ _ => F9
        rename News _ _ _ _ => N9
        exact hCb _ _ _ F9 N9 (bools_take hys (by rw [List.getElem?_map, hc]; rfl))
      · clear F9 N9
        intro ys3 hys3
        intro D3 hD3 tkD3 FD3 ND3 offD3
        replace hys3 := bools_whole hys3 (by simp [hrl])
        clear offD3
        k_steps
        rename Fr _ _ _ _ => F9
        rename News _ _ _ _ => N9
        refine hold_out ?_
        refine LCp.ListComp_P (F₀ := F9) (by with_unfolding_all rfl) (by decide) (by rfl) (by decide) (by rfl) (by rfl) (by decide) ?_
        k_steps
        rename Fr _ _ _ _ => F9
        rename News _ _ _ _ => N9
        refine hold_out (LCp.SrcLP.ledger (by rfl) F9 N9 (by k_mem) (by rw [sizeLine_eq, List.size_toArray]; omega) (fun gg => compP_fix (n := rvs.toArray.size) (fun i ys => ys = ((rs.map (fun c => decide (c.r ∈ fs))).take i).map Value.bool) rfl (.inr ⟨_, by k_mem, rfl, _, rfl⟩) ?_ ?_))
        · clear F9 N9
          intro i ys9 v hi hys hv
          obtain ⟨c, hc, hled⟩ := RL3.get (by simpa using hv : rvs[i]? = some v)
          obtain ⟨ra, t7, rfl, b1⟩ := hled.short
          have hlim := hL.lim (List.mem_of_getElem? hc)
          refine ⟨ra, _, .int c.r t7, .ref c.k.ad, _, rfl, by repeat (first | exact sx _ b1 | refine .tail _ ?_), rfl, rfl, ?_⟩
          intro I1 oI1 C1 oC1 D9 m2 h1 tk1 E1 Cb hC1 hx1' hx2' F1 N1 hCb
          k_steps
          rename Fr _ _ _ _ => F9
          rename News _ _ _ _ => N9
          exact hCb _ _ _ F9 N9 (bools_take hys (by rw [List.getElem?_map, hc]; rfl))
        · clear F9 N9
          intro ys4 hys4
          intro D4 hD4 tkD4 FD4 ND4 offD4
          replace hys4 := bools_whole hys4 (by simp [hrl])
          have hys34 : ys3 = ys4 := by
            rw [hys3, hys4]
            exact congrArg (List.map Value.bool) (List.map_congr_left fun c hc => decide_eq_decide.mpr (hall c hc).symm)
          clear offD4 hys3 hys4
          k_steps
          rename Fr _ _ _ _ => F9
          rename News _ _ _ _ => N9
          refine hold_out (ne_lists N9 (l := D3) (b := D4) (vs := ys3) (us := ys4) (by k_mem) (by k_mem) (by rw [hys34]) (fun j v u a b => ?_) (by ktr_units) ?_)
          · rw [hys34, b] at a
            cases a
            exact PySem.SeqAt.EqAt.same _
          k_steps
          rename Fr _ _ _ _ => F9
          rename News _ _ _ _ => N9
          replace N9 := news_tl (news_tl N9)
          refine hold_out ?_
          refine comp_stride F9 (by with_unfolding_all rfl) (by decide) (by rfl) (by decide) (by rfl) ?_
          k_steps
          rename Fr _ _ _ _ => F9
          rename News _ _ _ _ => N9
          rename IsRange _ _ _ _ _ _ _ _ => R9
          refine hold_out ⟨_, _, _, _, _, _, _, 360, _, rfl, by rfl, F9, N9, R9, small4 (by decide) (by decide) (by decide) (by decide), by rfl, by rw [sizeLine_eq]; decide, fun gg => compT_fix (fun j ys => IntsAre ys (wl W6 (rs.map (fun c => c.r - 4)) j)) .nil ?_ ?_⟩
          · clear F9 N9 R9
            intro i ys5 v I1 oI1 C1 oC1 D9 m2 h1 tk1 E1 Cb Cn hi hys hv hC1 hx1' F1 N1 hCb hCn
            obtain ⟨t8, rfl⟩ := hv
            k_steps
            all_goals (rename Fr _ _ _ _ => F9; rename News _ _ _ _ => N9)
            · rename (¬ _ ∈ _) => hnin
              exact hCb _ _ _ F9 N9 (by rw [wl_out hnin]; exact ints_snoc hys)
            · rename (¬ ¬ _ ∈ _) => hin
              exact hCn _ _ F9 N9 (by rw [wl_in hin]; exact hys)
          · clear F9 N9 R9
            intro ys5 hysc
            intro D5 hD5 tkD5 FD5 ND5 offD5
            have hwl : wl W6 (rs.map (fun c => c.r - 4)) 360 = wl W3 (rs.map (fun c => c.r - 4)) 360 := wl_same hL R6.st.same
            rw [hwl] at hysc
            clear offD5
            k_steps
            rename Fr _ _ _ _ => F9
            rename News _ _ _ _ => N9
            refine hold_out (ne_lists N9 (l := D5) (b := D2) (vs := ys5) (us := ys2) (by k_mem) (by k_mem) (by rw [hysc.length, hysb.length]) (fun j v u a b => ints_same hysc hysb j v u a b) (by ktr_units) ?_)
            k_steps
            rename Fr _ _ _ _ => F9
            rename News _ _ _ _ => N9
            replace N9 := news_tl N9
            have hgot : ∀ x ∈ ons, ∀ c ∈ rs, hit c x → W6 (mkp c) ≠ 0 := fun x hx c hc hh => (R6.all hL c hc).mpr (Rch.root hx hc hh)
            refine hold_out ?_
            k_dflt (refine' mark_ok (ax := ro) (vs := ovs) (ns := ons) (W := W6) (o := o6') ?B ?F ?X ?T ?hk ?hd ?hu ?N ?i1 ?i2 ?i3 ?i4 ?i5 ?hlo ?hM (neLt l3) (neLt w1) (neGt w2) (neGt xh2) ?i6 IO4 (neGt w3) (rootInv2 hL R6.st hgot) ?_)
            walk_at "NU prem5"
            case i6 => k_mem
            intro c7 W7 t7' h7' tk7' o7' S7 G7 M7 R7
            have F16 := Fr.same1 F9 N9 (by k_mem) S7
            have N16 := News.same1 N9 (by k_upd) S7 G7
            clear F9 N9 S7 G7 M6
            have hc7 := R7.1
            subst hc7
            k_steps)


end NuMark
theorem PySem.Challenge.cw_nu0327_01_holds : PySem.Challenge.rw_nu0327_01.Holds :=
  NuMark.law_holds
