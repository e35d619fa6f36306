import PyProof.Rows.All
import Wide.All
import OpenK.AllK
import Wide.FinOn
import Lean
import PySem.Challenge.RW_pb0239_01
open PySem PySem.W PySem.Calls PySem.Spec PyProof.Rows
set_option Elab.async false
set_option maxRecDepth 100000
set_option maxHeartbeats 8000000
set_option linter.unusedVariables false
namespace Mine
section
set_option maxHeartbeats 8000000
theorem wellSaid : OpenLaw.wellSaid PySem.Challenge.rw_pb0239_01 = true := (congrFun PySem.W.Fast.te9446332074065402090 _).trans (by kernel_rfl)
theorem quickly {α : Type} {p q : Program} {loose : List Str} {Xt : Shared → Bool} {Yf : Shared → α} {Ya : World → α} {N : Nat} {g0 : Bool}
    (h : ∀ w, ((((PySem.W.Fast.tw10274390034422433532 PySem.W.Fast.tw14364793385576792824 (opening p) w N (PySem.W.Fast.tw1435165496053646825 (opening p)).1 (PySem.W.Fast.tw1435165496053646825 (opening p)).2).bind (PySem.W.Fast.tw14289696077712309145 p)).bind fun s₀ => match s₀.heap.isNs mainGlobals && s₀.gens.size == 0 with
      | true => (PySem.W.Fast.tw14082659384304107361 PySem.W.Fast.tw14364793385576792824 p w s₀.heap.objs.size (s₀.heap.nsMap mainGlobals "__annotations__") N s₀ (topStub p)).bind fun s₁ => match staticsOk (importedModules p.main.body) s₀.heap s₁.heap && namesBound p s₁.heap && gensDone s₁ && laidKept s₀.heap s₁.heap with
        | true => some s₁
        | false => none
      | false => none).map fun s => (PySem.W.Fast.tw4187177175401517315 q loose (importedModules p.main.body) Xt g0 s, Yf s)) = some (openGood q loose, Ya w)) : LeftO p q loose Xt Yf Ya N g0 := by
  intro w
  have e := h w
  rw [← PySem.W.Fast.te10274390034422433532, ← PySem.W.Fast.te14364793385576792824, ← PySem.W.Fast.te1435165496053646825, ← PySem.W.Fast.te14289696077712309145, ← PySem.W.Fast.te14082659384304107361, ← PySem.W.Fast.te4187177175401517315] at e
  exact e
noncomputable def keepB : List Bool → List Stmt → List Stmt
  | true :: bs, x :: xs => x :: keepB bs xs
  | false :: bs, _ :: xs => keepB bs xs
  | _, _ => []
noncomputable def viewBody : List Stmt := by
  refine (fun (_ : ?b = keepB [false, true, true, true, true, true, false, true, true, false, true, true, true, true, false, true, true, true, true, true, true, false, true, true, false, true, true, true, true, true, false, true, true, true, true, true, true, true, true, true] PySem.Challenge.pw_pb0239_01.main.body) => ?b) ?h
  case h =>
    dsimp only [keepB, PySem.Challenge.pw_pb0239_01]
    exact rfl
noncomputable def view : Program := { PySem.Challenge.pw_pb0239_01 with main := { PySem.Challenge.pw_pb0239_01.main with body := viewBody } }
local macro_rules | `(tactic| o_law) => `(tactic| refine holds_law wellSaid fun said => ?_)
local macro_rules | `(tactic| o_head $H) => do
  let (hl, hw, hc) := (Lean.mkIdent `hl, Lean.mkIdent `hw, Lean.mkIdent `hc)
  `(tactic| (
  refine holds_open (q := view) (loose := [Str.ofString "LedgerError", Str.ofString "decimal", Str.ofString "quotient"]) (Xt := fun s => xlAt view [] s && recOk (RowW.records (OpenRow.toRowW PySem.Challenge.rw_pb0239_01.row)) s) (XP := XL view []) (Yf := Hook.obs $H) (Ya := Hook.val $H) (YP := Hook.says $H) (N := 2986) ?$hl (Hook.of $H) (Hook.keeps $H) (fun s e => xl_of s (Bool.and_eq_true_iff.mp e).1) XL.keeps (by rfl) (by rfl) (by rfl) (fun s e => recFacts_of (Bool.and_eq_true_iff.mp e).2) (by rfl) (by first | assumption | decide +kernel) (by decide +kernel) ⟨rfl, rfl, rfl, rfl, rfl, by decide +kernel⟩ ?$hw ?$hc
  (case $hl:ident => exact quickly fun w => by kernel_rfl)))
open_top hd for PySem.Challenge.rw_pb0239_01
end
theorem fill : (fun (_ : OpenLaw) (_ : Params → Frag) => True) PySem.Challenge.rw_pb0239_01 Mine.hd.heap_1 := by
  k_fill
  w_top off
  trivial
section
abbrev Ledger := List (Addr × Obj)

/-- what a call leaves: everything that no entry of the old ledger names, and the new ledger -/
structure Step (h h' : Heap) (news news' : Ledger) : Prop where
  keep : ∀ b o, b ∉ news.map (·.1) → h.get? b = some o → h'.get? b = some o
  here : ∀ p ∈ news', h'.get? p.1 = some p.2
  new : ∀ p ∈ news', p.1 ∈ news.map (·.1) ∨ h.get? p.1 = none

/-- the ledger over a base -/
structure Led (h₀ h : Heap) (news : Ledger) : Prop where
  keep : ∀ b o, h₀.get? b = some o → h.get? b = some o
  here : ∀ p ∈ news, h.get? p.1 = some p.2 ∧ h₀.get? p.1 = none

theorem Led.of {h₀ h : Heap} {L : Addr} {m : Str → Option Value} {news : Ledger} (F : Fr h₀ L h m) (N : News h₀ L h news) : Led h₀ h news :=
  ⟨F.keep, fun p hp => ⟨(N p hp).1, (N p hp).2.2⟩⟩
theorem Led.not {h₀ h : Heap} {news : Ledger} (D : Led h₀ h news) {b : Addr} {o : Obj} (e : h₀.get? b = some o) : b ∉ news.map (·.1) := fun q => by
  obtain ⟨p, hp, rfl⟩ := List.mem_map.mp q
  rw [(D.here p hp).2] at e; cases e
theorem Led.step {h₀ h h' : Heap} {news news' : Ledger} (D : Led h₀ h news) (S : Step h h' news news') : Led h₀ h' news' := by
  refine ⟨fun b o e => S.keep b o (D.not e) (D.keep b o e), fun p hp => ⟨S.here p hp, ?_⟩⟩
  cases q : h₀.get? p.1 with
  | none => rfl
  | some o =>
    rcases S.new p hp with z | z
    · exact absurd z (D.not q)
    · rw [D.keep _ _ q] at z; cases z
theorem Led.sub {h₀ h : Heap} {news news' : Ledger} (D : Led h₀ h news) (hs : ∀ p ∈ news', p ∈ news) : Led h₀ h news' := ⟨D.keep, fun p hp => D.here p (hs p hp)⟩

theorem Step.fr {h₀ h h' : Heap} {L : Addr} {m : Str → Option Value} {news news' : Ledger} (S : Step h h' news news') (F : Fr h₀ L h m) (N : News h₀ L h news) :
    Fr h₀ L h' m ∧ News h₀ L h' news' := by
  have D := (Led.of F N).step S
  obtain ⟨oL, es, ep, hL, r⟩ := F.ns
  have nL : L ∉ news.map (·.1) := fun q => by
    obtain ⟨p, hp, e⟩ := List.mem_map.mp q
    exact (N p hp).2.1 e
  refine ⟨⟨⟨oL, es, ep, S.keep L oL nL hL, r⟩, D.keep, F.above⟩, fun p hp => ⟨S.here p hp, fun q => ?_, (D.here p hp).2⟩⟩
  rcases S.new p hp with z | z
  · rw [q] at z; exact nL z
  · rw [q, hL] at z; cases z

theorem Step.refl {h : Heap} {news : Ledger} (H : ∀ p ∈ news, h.get? p.1 = some p.2) : Step h h news news :=
  ⟨fun _ _ _ e => e, H, fun _ hp => .inl (List.mem_map_of_mem hp)⟩
theorem Step.sub {h h' : Heap} {news news' news'' : Ledger} (S : Step h h' news news') (hs : ∀ p ∈ news'', p ∈ news') : Step h h' news news'' :=
  ⟨S.keep, fun p hp => S.here p (hs p hp), fun p hp => S.new p (hs p hp)⟩
theorem Step.trans {h h' h'' : Heap} {news news' news'' : Ledger} (S : Step h h' news news') (T : Step h' h'' news' news'') : Step h h'' news news'' := by
  have live : ∀ b, b ∉ news.map (·.1) → b ∈ news'.map (·.1) → h.get? b = none := fun b h1 h2 => by
    obtain ⟨p, hp, rfl⟩ := List.mem_map.mp h2
    exact (S.new p hp).resolve_left h1
  refine ⟨fun b o hb e => T.keep b o (fun q => ?_) (S.keep b o hb e), T.here, fun p hp => ?_⟩
  · rw [live b hb q] at e; cases e
  · by_cases hb : p.1 ∈ news.map (·.1)
    · exact .inl hb
    · refine .inr ?_
      rcases T.new p hp with z | z
      · exact live _ hb z
      · cases q : h.get? p.1 with
        | none => rfl
        | some o => rw [S.keep _ _ hb q] at z; cases z

/-- the end of a def's body -/
def Back (g : Heap) (L' : Addr) (h : Heap) (news : Ledger) (Q : Value → Shared → Prop) (v : Value) (s' : Shared) : Prop :=
  ∃ m' news', Fr g L' s'.heap m' ∧ News g L' s'.heap news' ∧ (Step h s'.heap news news' → Q v s')
theorem Back.mk {g : Heap} {L' : Addr} {h : Heap} {news news' : Ledger} {Q : Value → Shared → Prop} {v : Value} {s' : Shared} {m' : Str → Option Value} (F : Fr g L' s'.heap m') (N : News g L' s'.heap news')
    (k : Step h s'.heap news news' → Q v s') : Back g L' h news Q v s' := ⟨m', news', F, N, k⟩

theorem back_step {g h h' : Heap} {L' : Addr} {news news' : Ledger} {m' : Str → Option Value} (hg : g = hideAll h (news.map (·.1))) (F : Fr g L' h' m') (N : News g L' h' news') : Step h h' news news' := by
  subst hg
  refine ⟨fun b o hb e => F.keep b o (hideAll_get _ e hb), fun p hp => (N p hp).1, fun p hp => ?_⟩
  by_cases hb : p.1 ∈ news.map (·.1)
  · exact .inl hb
  · refine .inr ?_
    cases q : h.get? p.1 with
    | none => rfl
    | some o => have := (N p hp).2.2; rw [hideAll_get _ q hb] at this; cases this

section
variable {prog : Program} {w : World} {A : Around} {s : Shared} {h₀ : Heap} {news : Ledger} {K : Frag} {p : Program} {loose : List Str} {mean : ExcName → Option Value} {mg mb : Str → Option Value}
  {name qual : Str} {params : Arguments} {body : List Stmt} {scope : Scope} {dV kV doc pm cdv ct oc : Value} {an od : Option Addr} {osl : Array (Option Value)} {f : Addr} {vals : List Value} {binds : List (Str × Value)} {Q E : Value → Shared → Prop}

/-- into a def without cells -/
theorem enter (X : K.In h₀) (T : Top p loose mean mg mb h₀) (D : Led h₀ s.heap news)
    (ho : K.lookup f = some ⟨oc, od, .func (fnOf name qual params body scope dV kV doc pm an cdv ct), osl⟩) (hcd : codeIn K cdv qual = true) (hroom : A.depth < recursionLimit)
    (hbind : BindsTo s (fnOf name qual params body scope dV kV doc pm an cdv ct) ⟨vals, []⟩ binds) (hloc : ∀ y ∈ binds, scope.names.lookup y.1 = some .local)
    (h : ∀ g L' h₁, Fr g L' h₁ (fun y => binds.reverse.lookup y) → News g L' h₁ news → K.In g → Top p loose mean mg mb g → (∀ p ∈ news, p.1 < L') →
      wpAny (model prog w) (A.deeper (envOf qual scope L' f cdv)) (execs body (envOf qual scope L' f cdv))
        (fun fl s' => Back g L' s.heap news Q (match fl with | .ret v => v | _ => .none) s') (fun _ _ => False)
        { s with heap := h₁, toks := s.toks + binds.length })
    (hco : scope.isCoroutine = false) (hgen : scope.isGenerator = false) (hk : scope.kind = .function)
    (hcell : ∀ x ∈ scope.names, x.2 ≠ .cell) : wpAny (model prog w) A (call (.ref f) vals) Q E s := by
  refine wpAny_call ?_
  have st : h₀.StaysIn (hideAll s.heap (news.map (·.1))) := fun b o e => hideAll_get _ (D.keep b o e) (D.not e)
  refine codeAny_call_def (fd := fnOf name qual params body scope dV kV doc pm an cdv ct) (body := body) (binds := binds) hroom ((X.keeps D.keep) _ _ ho) rfl (T.nolimit.keeps D.keep) (codeRec_of (X.keeps D.keep) hcd) rfl hbind hcell hloc (fun h₁ hns hk₁ => ?_) hco hgen hk
  refine wpAny_mono (h _ s.heap.objs.size h₁ ⟨hns, fun b o e => hk₁ b o (of_hideAll _ e), Nat.le_of_eq (hideAll_size _ _)⟩
    (fun p hp => ⟨hk₁ _ _ (D.here p hp).1, Nat.ne_of_lt (Heap.lt_size (D.here p hp).1), hideAll_none _ (List.mem_map_of_mem hp)⟩) (X.keeps st) (T.keeps st) (fun p hp => Heap.lt_size (D.here p hp).1)) (fun fl s' hl => ?_) fun _ _ y => y.elim
  obtain ⟨m', news', F', N', k⟩ := hl
  exact k (back_step rfl F' N')

/-- into a def without cells; the base's facts stay -/
theorem enterS (X : K.In h₀) (T : Top p loose mean mg mb h₀) (D : Led h₀ s.heap news)
    (ho : K.lookup f = some ⟨oc, od, .func (fnOf name qual params body scope dV kV doc pm an cdv ct), osl⟩) (hcd : codeIn K cdv qual = true) (hroom : A.depth < recursionLimit)
    (hbind : BindsTo s (fnOf name qual params body scope dV kV doc pm an cdv ct) ⟨vals, []⟩ binds) (hloc : ∀ y ∈ binds, scope.names.lookup y.1 = some .local)
    (h : ∀ g L' h₁, Fr g L' h₁ (fun y => binds.reverse.lookup y) → News g L' h₁ news → K.In g → Top p loose mean mg mb g → (∀ p ∈ news, p.1 < L') → (∀ b o, h₀.get? b = some o → g.get? b = some o) →
      wpAny (model prog w) (A.deeper (envOf qual scope L' f cdv)) (execs body (envOf qual scope L' f cdv))
        (fun fl s' => Back g L' s.heap news Q (match fl with | .ret v => v | _ => .none) s') (fun _ _ => False)
        { s with heap := h₁, toks := s.toks + binds.length })
    (hco : scope.isCoroutine = false) (hgen : scope.isGenerator = false) (hk : scope.kind = .function)
    (hcell : ∀ x ∈ scope.names, x.2 ≠ .cell) : wpAny (model prog w) A (call (.ref f) vals) Q E s := by
  refine wpAny_call ?_
  have st : h₀.StaysIn (hideAll s.heap (news.map (·.1))) := fun b o e => hideAll_get _ (D.keep b o e) (D.not e)
  refine codeAny_call_def (fd := fnOf name qual params body scope dV kV doc pm an cdv ct) (body := body) (binds := binds) hroom ((X.keeps D.keep) _ _ ho) rfl (T.nolimit.keeps D.keep) (codeRec_of (X.keeps D.keep) hcd) rfl hbind hcell hloc (fun h₁ hns hk₁ => ?_) hco hgen hk
  refine wpAny_mono (h _ s.heap.objs.size h₁ ⟨hns, fun b o e => hk₁ b o (of_hideAll _ e), Nat.le_of_eq (hideAll_size _ _)⟩
    (fun p hp => ⟨hk₁ _ _ (D.here p hp).1, Nat.ne_of_lt (Heap.lt_size (D.here p hp).1), hideAll_none _ (List.mem_map_of_mem hp)⟩) (X.keeps st) (T.keeps st) (fun p hp => Heap.lt_size (D.here p hp).1) st) (fun fl s' hl => ?_) fun _ _ y => y.elim
  obtain ⟨m', news', F', N', k⟩ := hl
  exact k (back_step rfl F' N')

/-- into a def with cells -/
theorem enterC (X : K.In h₀) (T : Top p loose mean mg mb h₀) (D : Led h₀ s.heap news)
    (ho : K.lookup f = some ⟨oc, od, .func (fnOf name qual params body scope dV kV doc pm an cdv ct), osl⟩) (hcd : codeIn K cdv qual = true) (hroom : A.depth < recursionLimit)
    (hbind : BindsTo s (fnOf name qual params body scope dV kV doc pm an cdv ct) ⟨vals, []⟩ binds) (hkind : (binds.all fun y => scope.names.lookup y.1 == some .local || scope.names.lookup y.1 == some .cell) = true)
    (hnd : ((cellsFrom 0 scope.names []).map (·.1)).Nodup)
    (h : ∀ g L' h₁ tk cells, Fr g L' h₁ (bindL (envOfC qual scope L' f cdv).kindOf binds fun _ => none) → News g L' h₁ (cells ++ news) →
      CellsAre (bindC (envOfC qual scope L' f cdv).kindOf binds fun _ => none) (cellsFrom (L' + 1) scope.names []) cells → K.In g → Top p loose mean mg mb g → (∀ p ∈ news, p.1 < L') →
      wpAny (model prog w) (A.deeper (envOfC qual scope L' f cdv)) (execs body (envOfC qual scope L' f cdv))
        (fun fl s' => Back g L' s.heap news Q (match fl with | .ret v => v | _ => .none) s') (fun _ _ => False)
        { s with heap := h₁, toks := tk })
    (hco : scope.isCoroutine = false) (hgen : scope.isGenerator = false) (hk : scope.kind = .function) : wpAny (model prog w) A (call (.ref f) vals) Q E s := by
  refine wpAny_call ?_
  have st : h₀.StaysIn (hideAll s.heap (news.map (·.1))) := fun b o e => hideAll_get _ (D.keep b o e) (D.not e)
  have X' := X.keeps D.keep
  refine codeAny_call_function hroom (X' _ _ ho) rfl hco hgen rfl (codeRec_of X' hcd) (hbind _ _ _ _ ?_)
  refine wpAny_newFunctionEnv_cells hk (kindsX hkind _) fun env' he s' x => ?_
  subst he
  refine ⟨(T.nolimit.keeps D.keep).keeps x.toInCall.keep, codeAny_func ?_⟩
  obtain ⟨h₁, tk, rfl, _⟩ := x.done
  have hk₁ := x.toInCall.keep
  obtain ⟨cells, NC, Y⟩ := Cl.news (h₀ := s.heap) (Nat.le_refl _) fun n c hm => ⟨x.cell n c (lookup_of_mem_nodup (cellsFrom_names scope.names 0 (s.heap.objs.size + 1) [] [] rfl ▸ hnd) hm), x.above n c hm⟩
  refine wpAny_mono (h _ s.heap.objs.size h₁ tk cells ⟨x.toInCall.ns, fun b o e => hk₁ b o (of_hideAll _ e), Nat.le_of_eq (hideAll_size _ _)⟩ (fun p hp => ?_) Y (X.keeps st) (T.keeps st) (fun p hp => Heap.lt_size (D.here p hp).1)) (fun fl s' hl => ?_) fun _ _ y => y.elim
  · rcases List.mem_append.mp hp with hp | hp
    · refine ⟨(NC p hp).1, (NC p hp).2.1, ?_⟩
      cases q : (hideAll s.heap (news.map (·.1))).get? p.1 with
      | none => rfl
      | some o => have := of_hideAll _ q; rw [(NC p hp).2.2] at this; cases this
    · exact ⟨hk₁ _ _ (D.here p hp).1, Nat.ne_of_lt (Heap.lt_size (D.here p hp).1), hideAll_none _ (List.mem_map_of_mem hp)⟩
  · obtain ⟨m', news', F', N', k⟩ := hl
    exact k (back_step rfl F' N')
end
end
section
/-! frames and ledgers over a change that keeps all but a few addresses -/
theorem fr_off {h₀ h h' : Heap} {L : Addr} {m : Str → Option Value} {xs : List Addr} (F : Fr h₀ L h m) (hk : ∀ b o, b ∉ xs → h.get? b = some o → h'.get? b = some o) (hL : L ∉ xs) (h0 : ∀ b ∈ xs, h₀.get? b = none) : Fr h₀ L h' m := by
  obtain ⟨oL, es, ep, e, r⟩ := F.ns
  exact ⟨⟨oL, es, ep, hk L oL hL e, r⟩, fun b o q => hk b o (fun z => by rw [h0 b z] at q; cases q) (F.keep b o q), F.above⟩
theorem news_off {h₀ h h' : Heap} {L : Addr} {news : Ledger} {xs : List Addr} (N : News h₀ L h news) (hk : ∀ b o, b ∉ xs → h.get? b = some o → h'.get? b = some o) (hx : ∀ b ∈ xs, b ∉ news.map (·.1)) : News h₀ L h' news :=
  fun p hp => ⟨hk _ _ (fun z => hx _ z (List.mem_map_of_mem hp)) (N p hp).1, (N p hp).2⟩
theorem news_sub {h₀ h : Heap} {L : Addr} {news news' : Ledger} (N : News h₀ L h news) (hs : ∀ p ∈ news', p ∈ news) : News h₀ L h news' := fun p hp => N p (hs p hp)
theorem step_not {h h' : Heap} {news news' : Ledger} (S : Step h h' news news') {b : Addr} {o : Obj} (hb : b ∉ news.map (·.1)) (e : h.get? b = some o) : b ∉ news'.map (·.1) := fun q => by
  obtain ⟨p, hp, rfl⟩ := List.mem_map.mp q
  rcases S.new p hp with z | z
  · exact hb z
  · rw [e] at z; cases z

section
variable {prog : Program} {w : World} {A : Around} {E : Value → Shared → Prop} {env : Env} {h₀ : Heap} {L : Addr}

/-- what a comprehension's source, element and end are to show -/
structure CompOn (prog : Program) (w : World) (A : Around) (env : Env) (h₀ : Heap) (L : Addr) (scope : Scope) (cl : List (Str × Addr)) (x : Str) (elt : Expr) (Q : Value → Shared → Prop) (it : Value) (s₂ : Shared)
    (I : Addr) (fp wr : List Addr) (n : Nat) (P : Nat → Value → Prop) (St : Nat → Heap → Prop) (m : Str → Option Value) (news : Ledger) (R : Nat → List Value → Ledger → Prop) : Prop where
  it : it = .ref I
  W : Walks prog w A I fp wr n P St
  small : n ≤ sizeLine
  st : St 0 s₂.heap
  old : ∀ b ∈ fp, b < s₂.heap.objs.size
  off : ∀ b ∈ wr, b ≠ L ∧ h₀.get? b = none ∧ b ∉ news.map (·.1)
  live : ∀ i h, St i h → ∀ b ∈ wr, ∃ o, h.get? b = some o
  F : Fr h₀ L s₂.heap m
  N : News h₀ L s₂.heap news
  r0 : R 0 [] news
  stab : ∀ i j ys ys' nw nw' h h', R i ys nw → R (i + 1) ys' nw' → (∀ p ∈ nw, h.get? p.1 = some p.2) → (∀ b ∈ wr, b ∉ nw.map (·.1)) → Step h h' nw nw' → St j h → St j h'
  turn : ∀ C i v ys nw s₃ m₃, s₂.heap.objs.size ≤ C → P i v → ys.length = i → i < n → R i ys nw → s₃.heap.Ns C m₃ → m₃ x = some v → Fr h₀ L s₃.heap m → News h₀ L s₃.heap nw → C ∉ nw.map (·.1) → C ≠ L →
    wpAny (model prog w) A (eval elt (compEnvC scope cl C env)) (fun y s₄ => ∃ h' tk nw', s₄ = { s₃ with heap := h', toks := tk } ∧ Step s₃.heap h' nw nw' ∧ R (i + 1) (ys ++ [y]) nw') (fun _ _ => False) s₃
  done : ∀ D h' tk ys nw k, ys.length = n → R n ys nw → Fr h₀ L h' m → News h₀ L h' ((D, { cls := .type "list", data := .seq ys.toArray k }) :: nw) → D ∉ nw.map (·.1) → Q (.ref D) { s₂ with heap := h', toks := tk }

set_option maxHeartbeats 1000000 in
theorem compG {hh : Heap} {mm : Str → Option Value} (_F : Fr h₀ L hh mm) {s : Shared} {elt iter : Expr} {x : Str} {px : Pos} {scope : Scope} {cl : List (Str × Addr)} {pos : Pos} {Q : Value → Shared → Prop}
    (hclos : closureFor scope env = pure cl) (hcell : ∀ y ∈ scope.names, y.2 ≠ .cell) (hkind : scope.kind = .function)
    (hnames : ∀ y ∈ scope.names, y.2 = .local → scope.names.lookup y.1 = some .local) (hx : scope.names.lookup x = some .local)
    (h : wpAny (model prog w) A (eval iter env) (fun xv s₁ => wpAny (model prog w) A (pyIter xv) (fun it s₂ => ∃ I fp wr n P St m news R, CompOn prog w A env h₀ L scope cl x elt Q it s₂ I fp wr n P St m news R) E s₁) E s)
    (hs : ∀ x, foldedSetIterable iter env x = pure x) (ht : ∀ it v, letOwnedTupleGo (.Name x px) it v = pure ()) :
    wpAny (model prog w) A (eval (.ListComp elt [⟨.Name x px, iter, [], 0⟩] scope pos) env) Q E s := by
  rw [eval_ListComp]
  refine wpAny_comprehension_free (use := none) rfl hs hclos hkind hnames (wpAny_mono h (fun xv s₁ h₁ => wpAny_mono h₁ (fun it s₂ h₂ => ?_) fun _ _ e => e) fun _ _ e => e)
  clear h h₁
  obtain ⟨I, fp, wr, n, P, St, m, news, R, rfl, W, hsz, hst, hfp, hoff, hlive, F, N, r0, stab, turn, done⟩ := h₂
  refine wpAny_newObj_type (wpAny_newFunctionEnv hcell (by intro y hy; simp at hy) (fun h₁ hns₁ hsb₁ => ?_) hkind)
  dsimp only at hns₁ hsb₁ ⊢
  generalize hH2 : s₂.heap.push { cls := .type "list", dict := none, data := .seq ([] : List Value).toArray } = H2 at hns₁ hsb₁ ⊢
  have hC : H2.objs.size = s₂.heap.objs.size + 1 := by rw [← hH2, Heap.size_push]
  have hDC : s₂.heap.objs.size ≠ H2.objs.size := by rw [hC]; exact Nat.ne_of_lt (Nat.lt_succ_self _)
  have hCle : s₂.heap.objs.size ≤ H2.objs.size := by rw [hC]; exact Nat.le_succ _
  have below : ∀ b, b < s₂.heap.objs.size → b ≠ H2.objs.size ∧ b ≠ s₂.heap.objs.size := fun b hb => ⟨by rw [hC]; exact Nat.ne_of_lt (Nat.lt_succ_of_lt hb), Nat.ne_of_lt hb⟩
  have hDf : s₂.heap.objs.size ∉ fp := fun hm => Nat.lt_irrefl _ (hfp _ hm)
  have hCf : H2.objs.size ∉ fp := fun hm => by have := hfp _ hm; rw [hC] at this; exact Nat.lt_irrefl _ (Nat.lt_of_succ_lt this)
  have old : ∀ b o, s₂.heap.get? b = some o → h₁.get? b = some o := fun b o e => hsb₁.extBut b o (below b (Heap.lt_size e)).1 (Heap.get?_push_of_some _ (hH2 ▸ Heap.get?_push_of_some _ e))
  have hacc : h₁.PlainList s₂.heap.objs.size #[] := ⟨_, hsb₁.extBut _ _ hDC (Heap.get?_push_of_some _ (hH2 ▸ Heap.get?_push_size _ rfl))⟩
  have hst₁ : St 0 h₁ := W.frame _ _ _ hst fun b _ o e => old b o e
  have fresh : ∀ a, s₂.heap.objs.size ≤ a → s₂.heap.get? a = none := fun a ha => by
    cases e : s₂.heap.get? a with
    | none => rfl
    | some o' => exact absurd (Heap.lt_size e) (Nat.not_lt.mpr ha)
  have hL2 : L < s₂.heap.objs.size := F.ns.lt
  have hbase : ∀ a, s₂.heap.objs.size ≤ a → h₀.get? a = none := fun a ha => by
    cases e : h₀.get? a with
    | none => rfl
    | some o' => exact absurd (Heap.lt_size (F.keep _ _ e)) (Nat.not_lt.mpr ha)
  have nnews : ∀ a, s₂.heap.objs.size ≤ a → a ∉ news.map (·.1) := fun a ha q => by
    obtain ⟨p, hp, rfl⟩ := List.mem_map.mp q
    exact absurd (Heap.lt_size (N p hp).1) (Nat.not_lt.mpr ha)
  generalize hCe : H2.objs.size = C at *
  generalize hDe : s₂.heap.objs.size = D at *
  have F₁ : Fr h₀ L h₁ m := fr_off (xs := []) F (fun b o _ e => old b o e) (by simp) (by simp)
  have N₁ : News h₀ L h₁ news := news_off (xs := []) N (fun b o _ e => old b o e) (by simp)
  have hCL : C ≠ L := fun e => by rw [e] at hCle; exact absurd hL2 (Nat.not_lt.mpr hCle)
  have hDL : D ≠ L := fun e => by rw [e] at hL2; exact Nat.lt_irrefl _ hL2
  have hCw : C ∉ wr := fun h => hCf (W.sub _ h)
  have hDw : D ∉ wr := fun h => hDf (W.sub _ h)
  have loop : ∀ s₃ : Shared, s₃ = { s₂ with heap := h₁, toks := s₂.toks + ([] : List (Str × Value)).length } →
      codeAny (model prog w) A (.compLoop (.ListComp elt [⟨.Name x px, iter, [], 0⟩] scope pos) 0 (.ref I) (.ref D) (compEnvC scope cl C env)) (compPost (model prog w) A E none Q (.ref D) C) s₃ := by
    rintro s₃ rfl
    refine codeAny_compLoop_list (fun k s' => ∃ h' tk m' ys nw, s' = { s₂ with heap := h', toks := tk } ∧ St ys.length h' ∧ h'.PlainList D ys.toArray ∧ h'.Ns C m' ∧ R ys.length ys nw ∧ ys.length ≤ n ∧ k = n + 1 - ys.length ∧
      Fr h₀ L h' m ∧ News h₀ L h' nw ∧ C ∉ nw.map (·.1) ∧ D ∉ nw.map (·.1) ∧ (∀ b ∈ wr, b ∉ nw.map (·.1))) ?_ (n + 1)
      ⟨h₁, _, _, [], news, rfl, hst₁, hacc, hns₁, r0, Nat.zero_le _, rfl, F₁, N₁, nnews _ hCle, nnews _ (Nat.le_refl _), fun b hb => (hoff b hb).2.2⟩ (ht _)
    rintro k s' ⟨H, tk, m', ys, nw, rfl, hst', hacc', hn', hR, hi, rfl, F', N', nC, nD, nw_⟩
    by_cases hlt : ys.length < n
    · refine W.item ys.length _ _ _ hlt hst' fun v h₂ tk₂ hPv hst₂ hk₂ => ?_
      dsimp only at hk₂
      refine wpAny_assign_Name (wpAny_storeName_local (lookup_relabel_local hx) (hn'.at' fun o e => hk₂ _ o hCw e) (fun h₃ hn₃ hs₃ => ?_) (by simp [compEnvC, relabel, hkind]))
      have k23 : ∀ b o, b ∉ C :: wr → H.get? b = some o → h₃.get? b = some o := fun b o hb e => hs₃.extBut b o (fun q => hb (by rw [q]; exact .head _)) (hk₂ b o (fun q => hb (.tail _ q)) e)
      have hz : ∀ b ∈ C :: wr, h₀.get? b = none := fun b hb => by
        rcases List.mem_cons.mp hb with rfl | hb
        · exact hbase _ hCle
        · exact (hoff b hb).2.1
      have hLz : L ∉ C :: wr := fun hb => by
        rcases List.mem_cons.mp hb with e | hb
        · exact hCL e.symm
        · exact (hoff L hb).1 rfl
      have hnz : ∀ b ∈ C :: wr, b ∉ nw.map (·.1) := fun b hb => by
        rcases List.mem_cons.mp hb with rfl | hb
        · exact nC
        · exact nw_ b hb
      have F₃ := fr_off F' k23 hLz hz
      have N₃ := news_off N' k23 hnz
      have hst₃ : St (ys.length + 1) h₃ := W.frame _ _ _ hst₂ fun b hb o e => hs₃.extBut b o (fun h => hCf (by rw [← (show b = C from h)]; exact hb)) e
      have hacc₃ : h₃.PlainList D ys.toArray := hacc'.at fun o e => k23 _ o (fun hb => by
        rcases List.mem_cons.mp hb with e | hb
        · exact hDC e
        · exact hDw hb) e
      refine wpAny_mono (turn C ys.length v ys nw { s₂ with heap := h₃, toks := tk₂ + 1 } _ hCle hPv rfl hlt hR hn₃ (by simp) F₃ N₃ nC hCL) (fun y s₄ h₄ => ?_) fun _ _ f => f.elim
      obtain ⟨h₄, tk₄, nw', rfl, S, hR'⟩ := h₄
      dsimp only at S
      obtain ⟨F₄, N₄⟩ := S.fr F₃ N₃
      have here₃ : ∀ p ∈ nw, h₃.get? p.1 = some p.2 := fun p hp => (N₃ p hp).1
      have hst₄ : St (ys.length + 1) h₄ := stab _ _ _ _ _ _ _ _ hR hR' here₃ nw_ S hst₃
      obtain ⟨kD, eD⟩ := id hacc₃
      have nD' := step_not S nD eD
      have hacc₄ : h₄.PlainList D ys.toArray := hacc₃.at fun o e => S.keep D o nD e
      obtain ⟨oC, esC, epC, eC, rC⟩ := id hn₃
      have nC' := step_not S nC eC
      have hn₄ : h₄.Ns C _ := hn₃.at' fun o e => S.keep C o nC e
      have nw_' : ∀ b ∈ wr, b ∉ nw'.map (·.1) := fun b hb => by
        obtain ⟨o, e⟩ := hlive _ _ hst₃ b hb
        exact step_not S (nw_ b hb) e
      refine wpAny_list_append_plain (hsz := by simp only [List.size_toArray]; omega) hacc₄ fun h₅ hl₅ hs₅ => ?_
      refine ⟨n + 1 - (ys.length + 1), by omega, h₅, tk₄, _, ys ++ [y], nw', rfl, ?_, by simpa using hl₅, hn₄.sameBut hs₅ (Ne.symm hDC), by simpa using hR', by simp only [List.length_append, List.length_singleton]; omega, by simp, ?_, ?_, nC', nD', nw_'⟩
      · have := W.frame _ _ h₅ hst₄ fun b hb o e => hs₅.extBut b o (fun h => hDf (h ▸ hb)) e
        simpa using this
      · exact fr_off (xs := [D]) F₄ (fun b o hb e => hs₅.extBut b o (by simpa using hb) e) (by simpa using Ne.symm hDL) (by intro b hb; rw [List.mem_singleton.mp hb]; exact hbase _ (Nat.le_refl _))
      · exact news_off (xs := [D]) N₄ (fun b o hb e => hs₅.extBut b o (by simpa using hb) e) (by intro b hb; rw [List.mem_singleton.mp hb]; exact nD')
    · have hin : ys.length = n := by omega
      refine W.done _ _ _ (hin ▸ hst') fun h₂ tk₂ hk₂ => ?_
      dsimp only at hk₂
      refine ⟨m', hn'.at' fun o e => hk₂ _ o hCw e, fun h₃ hs₃ => ?_⟩
      have k23 : ∀ b o, b ∉ C :: wr → H.get? b = some o → h₃.get? b = some o := fun b o hb e => hs₃.extBut b o (fun q => hb (by rw [q]; exact .head _)) (hk₂ b o (fun q => hb (.tail _ q)) e)
      have hz : ∀ b ∈ C :: wr, h₀.get? b = none := fun b hb => by
        rcases List.mem_cons.mp hb with rfl | hb
        · exact hbase _ hCle
        · exact (hoff b hb).2.1
      have hLz : L ∉ C :: wr := fun hb => by
        rcases List.mem_cons.mp hb with e | hb
        · exact hCL e.symm
        · exact (hoff L hb).1 rfl
      have hnz : ∀ b ∈ C :: wr, b ∉ nw.map (·.1) := fun b hb => by
        rcases List.mem_cons.mp hb with rfl | hb
        · exact nC
        · exact nw_ b hb
      have hacc₃ : h₃.PlainList D ys.toArray := hacc'.at fun o e => k23 _ o (fun hb => by
        rcases List.mem_cons.mp hb with e | hb
        · exact hDC e
        · exact hDw hb) e
      obtain ⟨kD, eD⟩ := id hacc₃
      refine done D h₃ tk₂ ys nw kD hin (hin ▸ hR) (fr_off F' k23 hLz hz) (fun p hp => ?_) nD
      rcases List.mem_cons.mp hp with rfl | hp
      · exact ⟨eD, hDL, hbase _ (Nat.le_refl _)⟩
      · exact news_off N' k23 hnz p hp
  exact codeAny_compStart_list (loop _ rfl) (W.self 0 _ _ _ hst₁ (loop _ rfl))
end
end
section
section
variable {prog : Program} {w : World} {A : Around} {E : Value → Shared → Prop} {env : Env} {h₀ : Heap} {L : Addr}

theorem fresh_ground {h : Heap} {m : Str → Option Value} {news : Ledger} (F : Fr h₀ L h m) (N : News h₀ L h news) {I : Addr} (hI : h.objs.size ≤ I) : I ≠ L ∧ h₀.get? I = none ∧ I ∉ news.map (·.1) := by
  have a1 : L < h.objs.size := F.ns.lt
  refine ⟨fun e => by rw [e] at hI; exact absurd a1 (Nat.not_lt.mpr hI), ?_, fun q => ?_⟩
  · cases e : h₀.get? I with
    | none => rfl
    | some o' => exact absurd (Heap.lt_size (F.keep _ _ e)) (Nat.not_lt.mpr hI)
  · obtain ⟨p, hp, e⟩ := List.mem_map.mp q
    have := Heap.lt_size (N p hp).1
    rw [e] at this
    exact absurd this (Nat.not_lt.mpr hI)
theorem news_push {h : Heap} {news : Ledger} (N : News h₀ L h news) (o : Obj) : News h₀ L (h.push o) news :=
  fun p hp => ⟨Heap.get?_push_of_some _ (N p hp).1, (N p hp).2⟩

theorem iter_tuple {s₁ : Shared} {elt : Expr} {x : Str} {scope : Scope} {cl : List (Str × Addr)} {Q : Value → Shared → Prop} {ax : Addr} {vs : List Value} {k : Nat} {m : Str → Option Value} {news : Ledger} (R : Nat → List Value → Ledger → Prop)
    (hh : A.handled = none) (F : Fr h₀ L s₁.heap m) (N : News h₀ L s₁.heap news) (hm : (ax, ({ cls := .type "tuple", data := .seq vs.toArray k } : Obj)) ∈ news) (hsz : vs.length ≤ sizeLine)
    (r0 : R 0 [] news) (hR : ∀ i ys nw, R i ys nw → (ax, ({ cls := .type "tuple", data := .seq vs.toArray k } : Obj)) ∈ nw)
    (turn : ∀ C i v ys nw s₃ m₃, s₁.heap.objs.size < C → vs[i]? = some v → ys.length = i → R i ys nw → s₃.heap.Ns C m₃ → m₃ x = some v → Fr h₀ L s₃.heap m → News h₀ L s₃.heap nw → C ∉ nw.map (·.1) → C ≠ L →
      wpAny (model prog w) A (eval elt (compEnvC scope cl C env)) (fun y s₄ => ∃ h' tk nw', s₄ = { s₃ with heap := h', toks := tk } ∧ Step s₃.heap h' nw nw' ∧ R (i + 1) (ys ++ [y]) nw') (fun _ _ => False) s₃)
    (done : ∀ D h' tk ys nw k', ys.length = vs.length → R vs.length ys nw → Fr h₀ L h' m → News h₀ L h' ((D, { cls := .type "list", data := .seq ys.toArray k' }) :: nw) → D ∉ nw.map (·.1) → Q (.ref D) { s₁ with heap := h', toks := tk }) :
    wpAny (model prog w) A (pyIter (.ref ax)) (fun it s₂ => ∃ I fp wr n P St m news R, CompOn prog w A env h₀ L scope cl x elt Q it s₂ I fp wr n P St m news R) E s₁ := by
  have ht : s₁.heap.IsTuple ax vs.toArray := ⟨_, (N _ hm).1, rfl, k, rfl⟩
  have hlt : ax < s₁.heap.objs.size := Heap.lt_size (N _ hm).1
  obtain ⟨g1, g2, g3⟩ := fresh_ground F N (Nat.le_refl s₁.heap.objs.size)
  refine wpAny_pyIter_tuple ht ⟨s₁.heap.objs.size, _, _, _, _, _, m, news, R, rfl, Walks.tuple hh s₁.heap.objs.size ax (Nat.ne_of_lt hlt) vs.toArray, by simpa using hsz, ⟨⟨_, Heap.get?_push_size _ rfl, rfl, rfl⟩, ⟨_, Heap.get?_push_of_some _ (N _ hm).1, rfl, k, rfl⟩⟩, ?_, ?_, ?_, F.push _, news_push N _, r0, ?_, ?_, ?_⟩
  · intro b hb
    show b < (s₁.heap.push _).objs.size
    rw [Heap.size_push]
    rcases List.mem_cons.mp hb with rfl | hb
    · exact Nat.lt_succ_self _
    · rw [List.mem_singleton.mp hb]; exact Nat.lt_succ_of_lt hlt
  · intro b hb
    rw [List.mem_singleton.mp hb]; exact ⟨g1, g2, g3⟩
  · rintro i h ⟨⟨o, e, _⟩, _⟩ b hb
    rw [List.mem_singleton.mp hb]; exact ⟨o, e⟩
  · rintro i j ys ys' nw nw' h h' hr hr' here hw S ⟨⟨o, e, r⟩, _⟩
    exact ⟨⟨o, S.keep _ _ (hw _ (.head _)) e, r⟩, ⟨_, S.here _ (hR _ _ _ hr'), rfl, k, rfl⟩⟩
  · intro C i v ys nw s₃ m₃ hC hv hi _ hr
    exact turn C i v ys nw s₃ m₃ (by have : (s₁.heap.push _).objs.size ≤ C := hC; rw [Heap.size_push] at this; exact this) (by simpa using hv) hi hr
  · intro D h' tk ys nw k' hy hr
    exact done D h' tk ys nw k' (by simpa using hy) (by simpa using hr)

theorem iter_list {s₁ : Shared} {elt : Expr} {x : Str} {scope : Scope} {cl : List (Str × Addr)} {Q : Value → Shared → Prop} {ax : Addr} {vs : List Value} {k : Nat} {m : Str → Option Value} {news : Ledger} (R : Nat → List Value → Ledger → Prop)
    (hh : A.handled = none) (F : Fr h₀ L s₁.heap m) (N : News h₀ L s₁.heap news) (hm : (ax, ({ cls := .type "list", data := .seq vs.toArray k } : Obj)) ∈ news) (hsz : vs.length ≤ sizeLine)
    (r0 : R 0 [] news) (hR : ∀ i ys nw, R i ys nw → (ax, ({ cls := .type "list", data := .seq vs.toArray k } : Obj)) ∈ nw)
    (turn : ∀ C i v ys nw s₃ m₃, s₁.heap.objs.size < C → vs[i]? = some v → ys.length = i → R i ys nw → s₃.heap.Ns C m₃ → m₃ x = some v → Fr h₀ L s₃.heap m → News h₀ L s₃.heap nw → C ∉ nw.map (·.1) → C ≠ L →
      wpAny (model prog w) A (eval elt (compEnvC scope cl C env)) (fun y s₄ => ∃ h' tk nw', s₄ = { s₃ with heap := h', toks := tk } ∧ Step s₃.heap h' nw nw' ∧ R (i + 1) (ys ++ [y]) nw') (fun _ _ => False) s₃)
    (done : ∀ D h' tk ys nw k', ys.length = vs.length → R vs.length ys nw → Fr h₀ L h' m → News h₀ L h' ((D, { cls := .type "list", data := .seq ys.toArray k' }) :: nw) → D ∉ nw.map (·.1) → Q (.ref D) { s₁ with heap := h', toks := tk }) :
    wpAny (model prog w) A (pyIter (.ref ax)) (fun it s₂ => ∃ I fp wr n P St m news R, CompOn prog w A env h₀ L scope cl x elt Q it s₂ I fp wr n P St m news R) E s₁ := by
  have ht : s₁.heap.IsList ax vs.toArray := ⟨_, (N _ hm).1, rfl, k, rfl⟩
  have hlt : ax < s₁.heap.objs.size := Heap.lt_size (N _ hm).1
  obtain ⟨g1, g2, g3⟩ := fresh_ground F N (Nat.le_refl s₁.heap.objs.size)
  refine wpAny_pyIter_list ht ⟨s₁.heap.objs.size, _, _, _, _, _, m, news, R, rfl, Walks.list hh s₁.heap.objs.size ax (Nat.ne_of_lt hlt) vs.toArray, by simpa using hsz, ⟨⟨_, Heap.get?_push_size _ rfl, rfl, rfl⟩, ⟨_, Heap.get?_push_of_some _ (N _ hm).1, rfl, k, rfl⟩⟩, ?_, ?_, ?_, F.push _, news_push N _, r0, ?_, ?_, ?_⟩
  · intro b hb
    show b < (s₁.heap.push _).objs.size
    rw [Heap.size_push]
    rcases List.mem_cons.mp hb with rfl | hb
    · exact Nat.lt_succ_self _
    · rw [List.mem_singleton.mp hb]; exact Nat.lt_succ_of_lt hlt
  · intro b hb
    rw [List.mem_singleton.mp hb]; exact ⟨g1, g2, g3⟩
  · rintro i h ⟨⟨o, e, _⟩, _⟩ b hb
    rw [List.mem_singleton.mp hb]; exact ⟨o, e⟩
  · rintro i j ys ys' nw nw' h h' hr hr' here hw S ⟨⟨o, e, r⟩, _⟩
    exact ⟨⟨o, S.keep _ _ (hw _ (.head _)) e, r⟩, ⟨_, S.here _ (hR _ _ _ hr'), rfl, k, rfl⟩⟩
  · intro C i v ys nw s₃ m₃ hC hv hi _ hr
    exact turn C i v ys nw s₃ m₃ (by have : (s₁.heap.push _).objs.size ≤ C := hC; rw [Heap.size_push] at this; exact this) (by simpa using hv) hi hr
  · intro D h' tk ys nw k' hy hr
    exact done D h' tk ys nw k' (by simpa using hy) (by simpa using hr)

theorem iter_range {s₁ : Shared} {elt : Expr} {x : Str} {scope : Scope} {cl : List (Str × Addr)} {Q : Value → Shared → Prop} {ax : Addr} {n : Nat} {t u v : Tok} {m : Str → Option Value} {news : Ledger} (R : Nat → List Value → Ledger → Prop)
    (hh : A.handled = none) (F : Fr h₀ L s₁.heap m) (N : News h₀ L s₁.heap news) (hr : IsRange s₁.heap ax 0 n 1 t u v) (hn : n ≤ 2)
    (r0 : R 0 [] news)
    (turn : ∀ C i v ys nw s₃ m₃, s₁.heap.objs.size < C → ys.length = i → i < n → R i ys nw → s₃.heap.Ns C m₃ → m₃ x = some v → Fr h₀ L s₃.heap m → News h₀ L s₃.heap nw → C ∉ nw.map (·.1) → C ≠ L →
      wpAny (model prog w) A (eval elt (compEnvC scope cl C env)) (fun y s₄ => ∃ h' tk nw', s₄ = { s₃ with heap := h', toks := tk } ∧ Step s₃.heap h' nw nw' ∧ R (i + 1) (ys ++ [y]) nw') (fun _ _ => False) s₃)
    (done : ∀ D h' tk ys nw k', ys.length = n → R n ys nw → Fr h₀ L h' m → News h₀ L h' ((D, { cls := .type "list", data := .seq ys.toArray k' }) :: nw) → D ∉ nw.map (·.1) → Q (.ref D) { s₁ with heap := h', toks := tk }) :
    wpAny (model prog w) A (pyIter (.ref ax)) (fun it s₂ => ∃ I fp wr n P St m news R, CompOn prog w A env h₀ L scope cl x elt Q it s₂ I fp wr n P St m news R) E s₁ := by
  obtain ⟨g1, g2, g3⟩ := fresh_ground F N (Nat.le_refl s₁.heap.objs.size)
  have hsm : n = 0 ∨ n = 1 ∨ n = 2 := by omega
  have hsz : Builtin.Range.rangeSize 0 n 1 = n := by rcases hsm with rfl | rfl | rfl <;> decide
  have hsl : Builtin.Range.small 0 n 1 = true := by rcases hsm with rfl | rfl | rfl <;> decide
  refine wpAny_pyIter_range hr hsl ⟨s₁.heap.objs.size, _, _, _, _, _, m, news, R, rfl, Walks.range hh s₁.heap.objs.size 0 1 n, by have : sizeLine = 2 ^ 24 := rfl; omega, ?_, ?_, ?_, ?_, F.push _, news_push N _, r0, ?_, ?_, ?_⟩
  · rw [hsz]
    have := Heap.get?_push_size s₁.heap (o := { cls := .type "range_iterator", data := .fields #[rawInt 0, rawInt n, rawInt 1] }) rfl
    simpa [IsRangeIter] using this
  · intro b hb
    show b < (s₁.heap.push _).objs.size
    rw [Heap.size_push, List.mem_singleton.mp hb]; exact Nat.lt_succ_self _
  · intro b hb
    rw [List.mem_singleton.mp hb]; exact ⟨g1, g2, g3⟩
  · intro i h e b hb
    rw [List.mem_singleton.mp hb]; exact ⟨_, e⟩
  · intro i j ys ys' nw nw' h h' hr hr' here hw S e
    exact S.keep _ _ (hw _ (.head _)) e
  · intro C i v ys nw s₃ m₃ hC _ hi hlt hr
    exact turn C i v ys nw s₃ m₃ (by have : (s₁.heap.push _).objs.size ≤ C := hC; rw [Heap.size_push] at this; exact this) hi hlt hr
  · intro D h' tk ys nw k' hy hr
    exact done D h' tk ys nw k' hy hr
end
end
section
section
variable {prog : Program} {w : World} {A : Around} {E : Value → Shared → Prop} {env : Env} {h₀ : Heap}

/-- the end of a round of a for loop; q is the iterator's entry -/
def ForEnd (h₀ : Heap) (L : Addr) (q : Addr × Obj) (J : (Str → Option Value) → Ledger → Prop) (s₃ : Shared) (f : Flow) (s₅ : Shared) : Prop :=
  (f = .next ∨ f = .cont) ∧ ∃ h' tk m₂ nw₂, s₅ = { s₃ with heap := h', toks := tk } ∧ Fr h₀ L h' m₂ ∧ News h₀ L h' (q :: nw₂) ∧ q.1 ∉ nw₂.map (·.1) ∧ J m₂ nw₂
theorem ForEnd.mk {L : Addr} {q : Addr × Obj} {J : (Str → Option Value) → Ledger → Prop} {s₃ : Shared} {h' : Heap} {tk : Nat} {m₂ : Str → Option Value} {nw₂ : Ledger} (F : Fr h₀ L h' m₂) (N : News h₀ L h' (q :: nw₂)) (hq : q.1 ∉ nw₂.map (·.1)) (hJ : J m₂ nw₂) :
    ForEnd h₀ L q J s₃ .next { s₃ with heap := h', toks := tk } := ⟨.inl rfl, h', tk, m₂, nw₂, rfl, F, N, hq, hJ⟩

/-- what a for loop's source, turn and end are to show -/
structure ForOn (prog : Program) (w : World) (A : Around) (env : Env) (h₀ : Heap) (target : Expr) (body : List Stmt) (Q : Flow → Shared → Prop) (E : Value → Shared → Prop) (it : Value) (s₂ : Shared)
    (I : Addr) (fp : List Addr) (n : Nat) (P : Nat → Value → Prop) (St : Nat → Heap → Prop) (m : Str → Option Value) (news : Ledger) (J : Nat → (Str → Option Value) → Ledger → Prop) : Prop where
  it : it = .ref I
  W : Walks prog w A I fp [I] n P St
  st : St 0 s₂.heap
  off : I ≠ env.locals ∧ h₀.get? I = none ∧ I ∉ news.map (·.1)
  F : Fr h₀ env.locals s₂.heap m
  N : News h₀ env.locals s₂.heap news
  j0 : J 0 m news
  obj : ∀ i h, St i h → ∃ o, h.get? I = some o
  stab : ∀ i j h h' o m nw, J j m nw → St i h → h.get? I = some o → h'.get? I = some o → (∀ p ∈ nw, h'.get? p.1 = some p.2) → St i h'
  go : ∀ i v s (Q : Unit → Shared → Prop) (E : Value → Shared → Prop), P i v → St (i + 1) s.heap → Q () s → wpAny (model prog w) A (letOwnedTupleGo target (.ref I) v) Q E s
  turn : ∀ i v m₁ nw o s₃, i < n → P i v → St (i + 1) s₃.heap → J i m₁ nw → Fr h₀ env.locals s₃.heap m₁ → News h₀ env.locals s₃.heap ((I, o) :: nw) → I ∉ nw.map (·.1) →
    wpAny (model prog w) A (assign target env v) (fun _ s₄ => wpAny (model prog w) A (execs body env) (fun f s₅ => ForEnd h₀ env.locals (I, o) (J (i + 1)) s₃ f s₅) (fun _ _ => False) s₄) (fun _ _ => False) s₃
  done : ∀ h' tk m' nw, J n m' nw → Fr h₀ env.locals h' m' → News h₀ env.locals h' nw → Q .next { s₂ with heap := h', toks := tk }

theorem forG {hh : Heap} {mm : Str → Option Value} (_F : Fr h₀ env.locals hh mm) {s : Shared} {target iter : Expr} {pos : Pos} {body : List Stmt} {Q : Flow → Shared → Prop}
    (h : wpAny (model prog w) A (eval iter env) (fun xv s₁ => wpAny (model prog w) A (pyIter xv) (fun it s₂ => ∃ I fp n P St m news J, ForOn prog w A env h₀ target body Q E it s₂ I fp n P St m news J) E s₁) E s)
    (hs : ∀ x, foldedSetIterable iter env x = pure x) :
    wpAny (model prog w) A (exec (.For target iter body [] pos) env) Q E s := by
  refine wpAny_For (wpAny_mono h (fun xv s₁ h₁ => wpAny_mono h₁ (fun it s₂ h₂ => ?_) fun _ _ e => e) fun _ _ e => e) hs
  clear h h₁
  obtain ⟨I, fp, n, P, St, m, news, J, rfl, W, hst, ⟨hIL, hI0, hIn⟩, F, N, j0, obj, stab, go, turn, done⟩ := h₂
  refine codeAny_loop' rfl
    (fun k s' => ∃ h' tk m' nw i, s' = { s₂ with heap := h', toks := tk } ∧ St i h' ∧ Fr h₀ env.locals h' m' ∧ News h₀ env.locals h' nw ∧ I ∉ nw.map (·.1) ∧ J i m' nw ∧ i ≤ n ∧ k = n + 1 - i) ?_ (n + 1)
    ⟨s₂.heap, s₂.toks, m, news, 0, rfl, hst, F, N, hIn, j0, Nat.zero_le _, rfl⟩
  rintro k s' ⟨h', tk, m', nw, i, rfl, hst', F', N', hIn', hJ, hi, rfl⟩
  show wpAny _ _ ((forTurn target (.ref I) body [] env).onRaise (fun x => do noteFrame x env; theTreesLotGoes x)) _ _ _
  refine wpAny_noted ?_
  simp only [forTurn]
  refine wpAny_bind (wpAny_standAt (wpAny_bind (wpAny_onRaise ?_)))
  have mv : ∀ h₁ : Heap, (∀ b o, b ∉ [I] → h'.get? b = some o → h₁.get? b = some o) → Fr h₀ env.locals h₁ m' ∧ News h₀ env.locals h₁ nw := fun h₁ hk =>
    ⟨fr_off F' hk (by simpa using fun e => hIL e.symm) (by intro b hb; rw [List.mem_singleton.mp hb]; exact hI0), news_off N' hk (by intro b hb; rw [List.mem_singleton.mp hb]; exact hIn')⟩
  by_cases hlt : i < n
  · refine W.item i _ _ _ hlt hst' fun v h₁ tk₁ hP hst₁ hk₁ => ?_
    obtain ⟨F₁, N₁⟩ := mv h₁ hk₁
    obtain ⟨o, ho⟩ := obj _ _ hst₁
    refine wpAny_bind (go i v _ _ _ hP hst₁ ?_)
    have N₁' : News h₀ env.locals h₁ ((I, o) :: nw) := fun p hp => by
      rcases List.mem_cons.mp hp with rfl | hp
      · exact ⟨ho, hIL, hI0⟩
      · exact N₁ p hp
    refine wpAny_bind (wpAny_mono (turn i v m' nw o { s₂ with heap := h₁, toks := tk₁ } hlt hP hst₁ hJ F₁ N₁' hIn') (fun _ s₄ h₄ => wpAny_bind (wpAny_mono h₄ (fun f s₅ h₅ => ?_) fun _ _ e => e.elim)) fun _ _ e => e.elim)
    obtain ⟨hf, h₅', tk₅, m₂, nw₂, rfl, F₂, N₂, hIn₂, hJ₂⟩ := h₅
    have fin : ∃ m, m < n + 1 - i ∧ ∃ h' tk m' nw i, ({ s₂ with heap := h₅', toks := tk₅ } : Shared) = { s₂ with heap := h', toks := tk } ∧ St i h' ∧ Fr h₀ env.locals h' m' ∧ News h₀ env.locals h' nw ∧ I ∉ nw.map (·.1) ∧ J i m' nw ∧ i ≤ n ∧ m = n + 1 - i :=
      ⟨n + 1 - (i + 1), by omega, h₅', tk₅, m₂, nw₂, i + 1, rfl, stab _ _ _ _ _ _ _ hJ₂ hst₁ ho (N₂ _ List.mem_cons_self).1 (fun p hp => (N₂ p (List.mem_cons_of_mem _ hp)).1), F₂, fun p hp => N₂ p (List.mem_cons_of_mem _ hp), hIn₂, hJ₂, hlt, rfl⟩
    rcases hf with rfl | rfl
    · exact wpAny_pure (.inl ⟨rfl, fin⟩)
    · exact wpAny_pure (.inl ⟨rfl, fin⟩)
  · have hin : i = n := by omega
    subst hin
    refine W.done _ _ _ hst' fun h₁ tk₁ hk₁ => ?_
    obtain ⟨F₁, N₁⟩ := mv h₁ hk₁
    exact wpAny_pure (.inr ⟨rfl, codeAny_block (wpAny_execs_nil (done h₁ tk₁ m' nw hJ F₁ N₁))⟩)

theorem for_range {x : Str} {px : Pos} {body : List Stmt} {Q : Flow → Shared → Prop} {s₁ : Shared} {ax : Addr} {n : Nat} {t u v : Tok} {m : Str → Option Value} {news : Ledger} (J : Nat → (Str → Option Value) → Ledger → Prop)
    (hx : env.kindOf x = some .local) (hp : (env.scope.kind == .class || (env.scope.kind == .module && env.locals != env.globals)) = false)
    (hh : A.handled = none) (F : Fr h₀ env.locals s₁.heap m) (N : News h₀ env.locals s₁.heap news) (hr : IsRange s₁.heap ax 0 n 1 t u v) (hn : n ≤ 2) (j0 : J 0 m news)
    (turn : ∀ i m₁ nw I o t s₃, i < n → J i m₁ nw → o.cls = .type "range_iterator" → Fr h₀ env.locals s₃.heap (fun y => if y = x then some (.int (i : Int) t) else m₁ y) → News h₀ env.locals s₃.heap ((I, o) :: nw) → I ∉ nw.map (·.1) →
      wpAny (model prog w) A (execs body env) (fun f s₅ => ForEnd h₀ env.locals (I, o) (J (i + 1)) s₃ f s₅) (fun _ _ => False) s₃)
    (done : ∀ h' tk m' nw, J n m' nw → Fr h₀ env.locals h' m' → News h₀ env.locals h' nw → Q .next { s₁ with heap := h', toks := tk }) :
    wpAny (model prog w) A (pyIter (.ref ax)) (fun it s₂ => ∃ I fp n P St m news J, ForOn prog w A env h₀ (.Name x px) body Q E it s₂ I fp n P St m news J) E s₁ := by
  obtain ⟨g1, g2, g3⟩ := fresh_ground F N (Nat.le_refl s₁.heap.objs.size)
  have hsm : n = 0 ∨ n = 1 ∨ n = 2 := by omega
  have hsz : Builtin.Range.rangeSize 0 n 1 = n := by rcases hsm with rfl | rfl | rfl <;> decide
  have hsl : Builtin.Range.small 0 n 1 = true := by rcases hsm with rfl | rfl | rfl <;> decide
  refine wpAny_pyIter_range hr hsl ⟨s₁.heap.objs.size, _, _, _, _, m, news, J, rfl, Walks.range hh s₁.heap.objs.size 0 1 n, ?_, ⟨g1, g2, g3⟩, F.push _, news_push N _, j0, ?_, ?_, ?_, ?_, ?_⟩
  · rw [hsz]
    have := Heap.get?_push_size s₁.heap (o := { cls := .type "range_iterator", data := .fields #[rawInt 0, rawInt n, rawInt 1] }) rfl
    simpa [IsRangeIter] using this
  · intro i h e; exact ⟨_, e⟩
  · intro i j h h' o m nw _ e e1 e2 _
    rw [e] at e1; cases e1; exact e2
  · intro i v s Q E _ _ h; exact wpAny_pure h
  · rintro i v m₁ nw o s₃ hi ⟨t, rfl⟩ hst hJ F3 N3 hI
    refine wpAny_assign_Name (wpAny_storeName_local hx F3.ns (fun h₂ hn₂ hs₂ => ?_) hp)
    have ho : o.cls = .type "range_iterator" := by
      have := (N3 _ List.mem_cons_self).1
      rw [hst] at this; cases this; rfl
    have e : (0 : Int) + (i : Int) * 1 = i := by omega
    rw [e] at hn₂
    exact turn i m₁ nw _ o t { s₃ with heap := h₂, toks := _ } hi hJ ho (F3.set hn₂ hs₂) (N3.set hs₂) hI
  · intro h' tk m' nw hJ F' N'; exact done h' tk m' nw hJ F' N'
end
end
section
section
variable {prog : Program} {w : World} {A : Around} {E : Value → Shared → Prop} {env : Env} {h₀ : Heap} {L : Addr}

theorem ne_of_lt_size {h : Heap} {b : Addr} {o : Obj} (e : h.get? b = some o) : b ≠ h.objs.size := Nat.ne_of_lt (Heap.lt_size e)

theorem pair_at {nw : Ledger} {vs : List Value} {ds : List Dat} (h : DatAll nw vs ds) (hds : ∀ d ∈ ds, ∃ a b, d = .tuple [a, b]) {i : Nat} {v : Value} (hv : vs[i]? = some v) :
    ∃ a b v₁ v₂ t nt, v = .ref t ∧ (t, ({ cls := .type "tuple", data := .seq #[v₁, v₂] nt } : Obj)) ∈ nw ∧ ds[i]? = some (.tuple [a, b]) ∧ DatIn nw v₁ a ∧ DatIn nw v₂ b := by
  have hlt : i < ds.length := by rw [← h.length]; exact (List.getElem?_eq_some_iff.mp hv).1
  obtain ⟨v', e, hd⟩ := h.get hlt
  rw [hv] at e; cases e
  obtain ⟨a, b, e⟩ := hds _ (List.getElem_mem hlt)
  rw [e] at hd
  cases hd with
  | tuple hm r =>
    rcases r with _ | ⟨h1, _ | ⟨h2, ⟨⟩⟩⟩
    exact ⟨a, b, _, _, _, _, rfl, hm, by rw [List.getElem?_eq_getElem hlt, e], h1, h2⟩

/-- for a, b in a list of pairs -/
theorem for_pairs {x₁ x₂ : Str} {px₁ px₂ tp : Pos} {tk₀} {body : List Stmt} {Q : Flow → Shared → Prop} {s₁ : Shared} {ax : Addr} {vs : List Value} {k : Nat} {ds : List Dat} {m : Str → Option Value} {news : Ledger} (J : Nat → (Str → Option Value) → Ledger → Prop)
    (hx₁ : env.kindOf x₁ = some .local) (hx₂ : env.kindOf x₂ = some .local) (hp : (env.scope.kind == .class || (env.scope.kind == .module && env.locals != env.globals)) = false)
    (hh : A.handled = none) (F : Fr h₀ env.locals s₁.heap m) (N : News h₀ env.locals s₁.heap news) (hm : (ax, ({ cls := .type "list", data := .seq vs.toArray k } : Obj)) ∈ news)
    (hJ : ∀ i m nw, J i m nw → (ax, ({ cls := .type "list", data := .seq vs.toArray k } : Obj)) ∈ nw ∧ DatAll nw vs ds) (hds : ∀ d ∈ ds, ∃ a b, d = .tuple [a, b]) (j0 : J 0 m news)
    (turn : ∀ i a b v₁ v₂ m₁ nw I o s₃, ds[i]? = some (.tuple [a, b]) → DatIn nw v₁ a → DatIn nw v₂ b → J i m₁ nw → o.cls = .type "list_iterator" → Fr h₀ env.locals s₃.heap (fun y => if y = x₂ then some v₂ else if y = x₁ then some v₁ else m₁ y) →
      News h₀ env.locals s₃.heap ((I, o) :: nw) → I ∉ nw.map (·.1) → wpAny (model prog w) A (execs body env) (fun f s₅ => ForEnd h₀ env.locals (I, o) (J (i + 1)) s₃ f s₅) (fun _ _ => False) s₃)
    (done : ∀ h' tk m' nw, J vs.length m' nw → Fr h₀ env.locals h' m' → News h₀ env.locals h' nw → Q .next { s₁ with heap := h', toks := tk }) :
    wpAny (model prog w) A (pyIter (.ref ax)) (fun it s₂ => ∃ I fp n P St m news J, ForOn prog w A env h₀ (.Tuple [.Name x₁ px₁, .Name x₂ px₂] tk₀ tp) body Q E it s₂ I fp n P St m news J) E s₁ := by
  have ht : s₁.heap.IsList ax vs.toArray := ⟨_, (N _ hm).1, rfl, k, rfl⟩
  have hlt : ax < s₁.heap.objs.size := Heap.lt_size (N _ hm).1
  obtain ⟨g1, g2, g3⟩ := fresh_ground F N (Nat.le_refl s₁.heap.objs.size)
  refine wpAny_pyIter_list ht ⟨s₁.heap.objs.size, _, _, _, _, m, news, J, rfl, Walks.list hh s₁.heap.objs.size ax (Nat.ne_of_lt hlt) vs.toArray, ⟨⟨_, Heap.get?_push_size _ rfl, rfl, rfl⟩, ⟨_, Heap.get?_push_of_some _ (N _ hm).1, rfl, k, rfl⟩⟩, ⟨g1, g2, g3⟩, F.push _, news_push N _, j0, ?_, ?_, ?_, ?_, ?_⟩
  · rintro i h ⟨⟨o, e, _⟩, _⟩; exact ⟨o, e⟩
  · rintro i j h h' o m nw hj ⟨⟨o', e', r⟩, _⟩ e1 e2 hN
    rw [e1] at e'; cases e'
    exact ⟨⟨o, e2, r⟩, ⟨_, hN _ (hJ _ _ _ hj).1, rfl, k, rfl⟩⟩
  · rintro i v s Q E hv ⟨hit, _⟩ hQ
    have hv' : vs[i]? = some v := by simpa using hv
    obtain ⟨a, b, v₁, v₂, t, nt, rfl, _⟩ := pair_at (hJ _ _ _ j0).2 hds hv'
    exact wpAny_letOwnedTupleGo_listiter hit hQ
  · rintro i v m₁ nw o s₃ hi hv ⟨⟨o', e', hc, _⟩, _⟩ hJ₁ F3 N3 hI
    have ho : o.cls = .type "list_iterator" := by
      have := (N3 _ List.mem_cons_self).1
      rw [e'] at this; cases this; exact hc
    have hv' : vs[i]? = some v := by simpa using hv
    obtain ⟨a, b, v₁, v₂, t, nt, rfl, hmt, hda, h1, h2⟩ := pair_at (hJ _ _ _ hJ₁).2 hds hv'
    have htup : IsTup s₃.heap t #[v₁, v₂] := ⟨_, (N3 _ (List.mem_cons_of_mem _ hmt)).1, rfl, nt, rfl⟩
    refine assign_Tuple_tuple hh htup rfl rfl fun h₂ he => ?_
    have he' : ∀ b o, b ∉ [] → s₃.heap.get? b = some o → h₂.get? b = some o := fun b o _ e => he b o (ne_of_lt_size e) e
    have F4 := fr_off F3 he' (by simp) (by simp)
    have N4 := news_off N3 he' (by simp)
    refine assignInOrder_cons (wpAny_assign_Name (wpAny_storeName_local hx₁ F4.ns (fun h₃ hn₃ hs₃ => ?_) hp))
    have F5 := F4.set hn₃ hs₃
    have N5 := News.set N4 hs₃
    refine assignInOrder_cons (wpAny_assign_Name (wpAny_storeName_local hx₂ F5.ns (fun h₄ hn₄ hs₄ => ?_) hp))
    exact assignInOrder_nil (turn i a b v₁ v₂ m₁ nw _ o { s₃ with heap := h₄, toks := _ } hda h1 h2 hJ₁ ho (F5.set hn₄ hs₄) (News.set N5 hs₄) hI)
  · intro h' tk m' nw hj F' N'; exact done h' tk m' nw (by simpa using hj) F' N'

/-- the loop of a comprehension over pairs, with tests -/
theorem loop_pt {elt target iter : Expr} {ifs : List Expr} {scope : Scope} {pos : Pos} {it acc : Value} {R : Result → Shared → Prop} (I : Nat → Shared → Prop)
    (turn : ∀ n s, I n s → wpAny (model prog w) A (pyNext it) (fun r s₁ => match r with
      | none => R (.ok .next) s₁
      | some v => wpAny (model prog w) A (letOwnedTupleGo target it v) (fun _ s₁' => wpAny (model prog w) A (assign target env v) (fun _ s₂ =>
          wpAny (model prog w) A (forIn ifs true fun c r => if r = true then do let ok ← isTrue c env (eval c env); pure (ForInStep.yield ok) else pure (ForInStep.yield r)) (fun ok s₃ =>
            if ok = true then wpAny (model prog w) A (eval elt env) (fun x s₄ =>
              wpAny (model prog w) A (call (.builtin "list.append") [acc, x]) (fun _ s₅ => ∃ m, m < n ∧ I m s₅) (notedBy (model prog w) A env fun e s' => R (.error e) s') s₄) (notedBy (model prog w) A env fun e s' => R (.error e) s') s₃
            else ∃ m, m < n ∧ I m s₃) (notedBy (model prog w) A env fun e s' => R (.error e) s') s₂) (notedBy (model prog w) A env fun e s' => R (.error e) s') s₁') (notedBy (model prog w) A env fun e s' => R (.error e) s') s₁) (notedBy (model prog w) A env fun e s' => R (.error e) s') s)
    (n : Nat) {s : Shared} (h : I n s) :
    codeAny (model prog w) A (.compLoop (.ListComp elt [⟨target, iter, ifs, 0⟩] scope pos) 0 it acc env) R s := by
  refine codeAny_loop rfl I (fun n s hI => ?_) n h
  show wpAny _ A ((compTurn (.ListComp elt [⟨target, iter, ifs, 0⟩] scope pos) 0 it acc env).onRaise (fun x => do noteFrame x env; theTreesLotGoes x)) _ _ s
  refine wpAny_noted ?_
  rw [compTurn_list]
  refine wpAny_bind (wpAny_standAt (wpAny_bind (wpAny_mono (turn n s hI) (fun r s₁ h₁ => ?_) fun _ _ h' => h')))
  cases r with
  | none => exact wpAny_pure h₁
  | some v =>
    refine wpAny_bind (wpAny_mono h₁ (fun _ s₁' h₁ => ?_) fun _ _ h' => h')
    refine wpAny_bind (wpAny_mono h₁ (fun _ s₂ h₂ => wpAny_bind (wpAny_mono h₂ (fun ok s₃ h₃ => ?_) fun _ _ h' => h')) fun _ _ h' => h')
    cases ok with
    | false => exact wpAny_pure ⟨rfl, h₃⟩
    | true =>
      exact wpAny_bind (wpAny_bind (wpAny_mono h₃ (fun x s₄ h₄ => wpAny_bind (wpAny_mono h₄ (fun _ s₅ h₅ => wpAny_pure (wpAny_pure ⟨rfl, h₅⟩)) fun _ _ h' => h')) fun _ _ h' => h'))

theorem take_filterMap {q : Dat → Option Dat} {ds : List Dat} {i : Nat} {d : Dat} (h : ds[i]? = some d) : (ds.take (i + 1)).filterMap q = (ds.take i).filterMap q ++ (q d).toList := by
  rw [List.take_add_one, h, List.filterMap_append]
  cases e : q d <;> simp [e]

/-- [.. for a, b in a list of pairs if test] whose test and element leave the heap alone -/
theorem comp_pairs {hh : Heap} {mm : Str → Option Value} (_F : Fr h₀ L hh mm) {s : Shared} {elt iter ct : Expr} {x₁ x₂ : Str} {px₁ px₂ tp : Pos} {tk₀} {scope : Scope} {cl : List (Str × Addr)} {pos : Pos} {Q : Value → Shared → Prop} (q : Dat → Option Dat)
    (hclos : closureFor scope env = pure cl) (hcell : ∀ y ∈ scope.names, y.2 ≠ .cell) (hkind : scope.kind = .function)
    (hnames : ∀ y ∈ scope.names, y.2 = .local → scope.names.lookup y.1 = some .local) (hx₁ : scope.names.lookup x₁ = some .local) (hx₂ : scope.names.lookup x₂ = some .local) (hxx : x₁ ≠ x₂) (hA : A.handled = none)
    (h : wpAny (model prog w) A (eval iter env) (fun xv s₁ => ∃ ax vs k ds m news, xv = .ref ax ∧ (ax, ({ cls := .type "list", data := .seq vs.toArray k } : Obj)) ∈ news ∧ vs.length ≤ sizeLine ∧ (∀ d ∈ ds, ∃ a b, d = .tuple [a, b]) ∧ Fr h₀ L s₁.heap m ∧ News h₀ L s₁.heap news ∧ DatAll news vs ds ∧
      (∀ C a b v₁ v₂ s₃ m₃, .tuple [a, b] ∈ ds → DatIn news v₁ a → DatIn news v₂ b → s₃.heap.Ns C m₃ → m₃ x₁ = some v₁ → m₃ x₂ = some v₂ → Fr h₀ L s₃.heap m → News h₀ L s₃.heap news → C ≠ L →
        wpAny (model prog w) A (isTrue ct (compEnvC scope cl C env) (eval ct (compEnvC scope cl C env))) (fun ok s₄ => (∃ tk, s₄ = { s₃ with toks := tk }) ∧ if ok = true then
          wpAny (model prog w) A (eval elt (compEnvC scope cl C env)) (fun y s₅ => (∃ tk, s₅ = { s₃ with toks := tk }) ∧ ∃ d, q (.tuple [a, b]) = some d ∧ DatIn news y d) (fun _ _ => False) s₄ else q (.tuple [a, b]) = none) (fun _ _ => False) s₃) ∧
      (∀ D h' tk ys k', ys.length ≤ vs.length → DatAll news ys (ds.filterMap q) → Fr h₀ L h' m → News h₀ L h' ((D, { cls := .type "list", data := .seq ys.toArray k' }) :: news) → D ∉ news.map (·.1) → Q (.ref D) { s₁ with heap := h', toks := tk })) E s)
    (hs : ∀ x, foldedSetIterable iter env x = pure x) :
    wpAny (model prog w) A (eval (.ListComp elt [⟨.Tuple [.Name x₁ px₁, .Name x₂ px₂] tk₀ tp, iter, [ct], 0⟩] scope pos) env) Q E s := by
  rw [eval_ListComp]
  refine wpAny_comprehension_free (use := none) rfl hs hclos hkind hnames (wpAny_mono h (fun xv s₁ h₁ => ?_) fun _ _ e => e)
  clear h
  obtain ⟨ax, vs, kx, ds, m, news, rfl, hm, hsz, hds, F, N, hvs, turn, done⟩ := h₁
  have ht : s₁.heap.IsList ax vs.toArray := ⟨_, (N _ hm).1, rfl, kx, rfl⟩
  have hax : ax < s₁.heap.objs.size := Heap.lt_size (N _ hm).1
  obtain ⟨g1, g2, g3⟩ := fresh_ground F N (Nat.le_refl s₁.heap.objs.size)
  refine wpAny_pyIter_list ht ?_
  have W := Walks.list (prog := prog) (w := w) (A := A) hA s₁.heap.objs.size ax (Nat.ne_of_lt hax) vs.toArray
  have hst : (s₁.heap.push { cls := .type "list_iterator", data := .fields #[.ref ax, .int 0 0] }).IsListIter s₁.heap.objs.size ax 0 ∧ (s₁.heap.push { cls := .type "list_iterator", data := .fields #[.ref ax, .int 0 0] }).IsList ax vs.toArray :=
    ⟨⟨_, Heap.get?_push_size _ rfl, rfl, rfl⟩, ⟨_, Heap.get?_push_of_some _ (N _ hm).1, rfl, kx, rfl⟩⟩
  have Fa : Fr h₀ L (s₁.heap.push { cls := .type "list_iterator", data := .fields #[.ref ax, .int 0 0] }) m := F.push _
  have Na : News h₀ L (s₁.heap.push { cls := .type "list_iterator", data := .fields #[.ref ax, .int 0 0] }) news := news_push N _
  have hfp : ∀ b ∈ [s₁.heap.objs.size, ax], b < (s₁.heap.push { cls := .type "list_iterator", data := .fields #[.ref ax, .int 0 0] }).objs.size := fun b hb => by
    rw [Heap.size_push]
    rcases List.mem_cons.mp hb with rfl | hb
    · exact Nat.lt_succ_self _
    · rw [List.mem_singleton.mp hb]; exact Nat.lt_succ_of_lt hax
  generalize (s₁.heap.push { cls := .type "list_iterator", data := .fields #[.ref ax, .int 0 0] }) = H1 at *
  generalize s₁.heap.objs.size = I at *
  clear F N ht
  refine wpAny_newObj_type (wpAny_newFunctionEnv hcell (by intro y hy; simp at hy) (fun h₁ hns₁ hsb₁ => ?_) hkind)
  dsimp only at hns₁ hsb₁ ⊢
  generalize hH2 : H1.push { cls := .type "list", dict := none, data := .seq ([] : List Value).toArray } = H2 at hns₁ hsb₁ ⊢
  have hC : H2.objs.size = H1.objs.size + 1 := by rw [← hH2, Heap.size_push]
  have hDC : H1.objs.size ≠ H2.objs.size := by rw [hC]; exact Nat.ne_of_lt (Nat.lt_succ_self _)
  have hCle : H1.objs.size ≤ H2.objs.size := by rw [hC]; exact Nat.le_succ _
  have below : ∀ b, b < H1.objs.size → b ≠ H2.objs.size ∧ b ≠ H1.objs.size := fun b hb => ⟨by rw [hC]; exact Nat.ne_of_lt (Nat.lt_succ_of_lt hb), Nat.ne_of_lt hb⟩
  have old : ∀ b o, H1.get? b = some o → h₁.get? b = some o := fun b o e => hsb₁.extBut b o (below b (Heap.lt_size e)).1 (Heap.get?_push_of_some _ (hH2 ▸ Heap.get?_push_of_some _ e))
  have hacc : h₁.PlainList H1.objs.size #[] := ⟨_, hsb₁.extBut _ _ hDC (Heap.get?_push_of_some _ (hH2 ▸ Heap.get?_push_size _ rfl))⟩
  have hst₁ : h₁.IsListIter I ax 0 ∧ h₁.IsList ax vs.toArray := W.frame _ _ _ hst fun b _ o e => old b o e
  have fresh : ∀ a, H1.objs.size ≤ a → H1.get? a = none := fun a ha => by
    cases e : H1.get? a with
    | none => rfl
    | some o' => exact absurd (Heap.lt_size e) (Nat.not_lt.mpr ha)
  have hL2 : L < H1.objs.size := Fa.ns.lt
  have hbase : ∀ a, H1.objs.size ≤ a → h₀.get? a = none := fun a ha => by
    cases e : h₀.get? a with
    | none => rfl
    | some o' => exact absurd (Heap.lt_size (Fa.keep _ _ e)) (Nat.not_lt.mpr ha)
  have nnews : ∀ a, H1.objs.size ≤ a → a ∉ news.map (·.1) := fun a ha q => by
    obtain ⟨p, hp, rfl⟩ := List.mem_map.mp q
    exact absurd (Heap.lt_size (Na p hp).1) (Nat.not_lt.mpr ha)
  have hId := below I (hfp I List.mem_cons_self)
  have haxd := below ax (hfp ax (List.mem_cons_of_mem _ List.mem_cons_self))
  generalize hCe : H2.objs.size = C at *
  generalize hDe : H1.objs.size = D at *
  have F₁ : Fr h₀ L h₁ m := fr_off (xs := []) Fa (fun b o _ e => old b o e) (by simp) (by simp)
  have N₁ : News h₀ L h₁ news := news_off (xs := []) Na (fun b o _ e => old b o e) (by simp)
  have hCL : C ≠ L := fun e => by rw [e] at hCle; exact absurd hL2 (Nat.not_lt.mpr hCle)
  have hDL : D ≠ L := fun e => by rw [e] at hL2; exact Nat.lt_irrefl _ hL2
  have hz : ∀ b ∈ [C, I], h₀.get? b = none := fun b hb => by
    rcases List.mem_cons.mp hb with rfl | hb
    · exact hbase _ hCle
    · rw [List.mem_singleton.mp hb]; exact g2
  have hLz : L ∉ [C, I] := fun hb => by
    rcases List.mem_cons.mp hb with e | hb
    · exact hCL e.symm
    · exact g1 (List.mem_singleton.mp hb).symm
  have hnz : ∀ b ∈ [C, I], b ∉ news.map (·.1) := fun b hb => by
    rcases List.mem_cons.mp hb with rfl | hb
    · exact nnews _ hCle
    · rw [List.mem_singleton.mp hb]; exact g3
  have nD := nnews D (Nat.le_refl _)
  have loop : ∀ s₃ : Shared, s₃ = { s₁ with heap := h₁, toks := s₁.toks + ([] : List (Str × Value)).length } →
      codeAny (model prog w) A (.compLoop (.ListComp elt [⟨.Tuple [.Name x₁ px₁, .Name x₂ px₂] tk₀ tp, iter, [ct], 0⟩] scope pos) 0 (.ref I) (.ref D) (compEnvC scope cl C env)) (compPost (model prog w) A E none Q (.ref D) C) s₃ := by
    rintro s₃ rfl
    refine loop_pt (fun k s' => ∃ h' tk m' ys i, s' = { s₁ with heap := h', toks := tk } ∧ (h'.IsListIter I ax i ∧ h'.IsList ax vs.toArray) ∧ h'.PlainList D ys.toArray ∧ h'.Ns C m' ∧ ys.length ≤ i ∧ i ≤ vs.length ∧ DatAll news ys ((ds.take i).filterMap q) ∧ k = vs.length + 1 - i ∧
      Fr h₀ L h' m ∧ News h₀ L h' news) ?_ (vs.length + 1)
      ⟨h₁, _, _, [], 0, rfl, hst₁, hacc, hns₁, Nat.le_refl _, Nat.zero_le _, .nil, rfl, F₁, N₁⟩
    rintro k s' ⟨H, tk, m', ys, i, rfl, hst', hacc', hn', hle, hi, hys, rfl, F', N'⟩
    by_cases hlt : i < vs.length
    · refine W.item i _ _ _ (by simpa using hlt) hst' fun v h₂ tk₂ hPv hst₂ hk₂ => ?_
      dsimp only at hk₂
      have hv' : vs[i]? = some v := by simpa using hPv
      obtain ⟨a, b, v₁, v₂, t, nt, rfl, hmt, hda, hd1, hd2⟩ := pair_at hvs hds hv'
      refine wpAny_letOwnedTupleGo_listiter hst₂.1 ?_
      have kI : ∀ b o, b ∉ [I] → H.get? b = some o → h₂.get? b = some o := hk₂
      have N₂ : News h₀ L h₂ news := news_off N' kI (by intro b hb; rw [List.mem_singleton.mp hb]; exact g3)
      have htup : IsTup h₂ t #[v₁, v₂] := ⟨_, (N₂ _ hmt).1, rfl, nt, rfl⟩
      refine assign_Tuple_tuple hA htup rfl rfl fun h₅ he => ?_
      have he' : ∀ b o, h₂.get? b = some o → h₅.get? b = some o := fun b o e => he b o (ne_of_lt_size e) e
      refine assignInOrder_cons (wpAny_assign_Name (wpAny_storeName_local (lookup_relabel_local hx₁) ((hn'.at' fun o e => hk₂ _ o (by simpa using Ne.symm hId.1) e).at' fun o e => he' _ o e) (fun h₆ hn₆ hs₆ => ?_) (by simp [compEnvC, relabel, hkind])))
      refine assignInOrder_cons (wpAny_assign_Name (wpAny_storeName_local (lookup_relabel_local hx₂) hn₆ (fun h₃ hn₃ hs₃ => ?_) (by simp [compEnvC, relabel, hkind])))
      refine assignInOrder_nil (wpAny_tests_one ?_)
      have k3 : ∀ b o, b ≠ C → h₂.get? b = some o → h₃.get? b = some o := fun b o hb e => hs₃.extBut b o hb (hs₆.extBut b o hb (he' b o e))
      have k23 : ∀ b o, b ∉ [C, I] → H.get? b = some o → h₃.get? b = some o := fun b o hb e => k3 b o (fun q => hb (by rw [q]; exact .head _)) (kI b o (fun q => hb (.tail _ q)) e)
      have F₃ := fr_off F' k23 hLz hz
      have N₃ := news_off N' k23 hnz
      have hst₃ : h₃.IsListIter I ax (i + 1) ∧ h₃.IsList ax vs.toArray := W.frame _ _ _ hst₂ fun b hb o e => k3 b o (fun h => by
        rcases List.mem_cons.mp hb with z | z
        · rw [z] at h; exact hId.1 h
        · rw [List.mem_singleton.mp z] at h; exact haxd.1 h) e
      have hacc₃ : h₃.PlainList D ys.toArray := hacc'.at fun o e => k23 _ o (fun hb => by
        rcases List.mem_cons.mp hb with e | hb
        · exact hDC e
        · exact hId.2 (List.mem_singleton.mp hb).symm) e
      refine wpAny_mono (turn C a b v₁ v₂ { s₁ with heap := h₃, toks := _ } _ (List.mem_of_getElem? hda) hd1 hd2 hn₃ (by simp [hxx]) (by simp) F₃ N₃ hCL) (fun ok s₄ h₄ => ?_) fun _ _ f => f.elim
      obtain ⟨⟨tk₄, rfl⟩, h₄⟩ := h₄
      have e1 := take_filterMap (q := q) hda
      cases ok with
      | false =>
        rw [if_neg Bool.false_ne_true] at h₄
        rw [if_neg Bool.false_ne_true]
        refine ⟨vs.length + 1 - (i + 1), by omega, h₃, tk₄, _, ys, i + 1, rfl, hst₃, hacc₃, hn₃, by omega, hlt, ?_, rfl, F₃, N₃⟩
        rw [e1, h₄, Option.toList_none, List.append_nil]; exact hys
      | true =>
        rw [if_pos rfl] at h₄ ⊢
        refine wpAny_mono h₄ (fun y s₅ h₅ => ?_) fun _ _ f => f.elim
        obtain ⟨⟨tk₅, rfl⟩, d, hq, hd⟩ := h₅
        refine wpAny_list_append_plain (hsz := by simp only [List.size_toArray]; omega) hacc₃ fun h₅ hl₅ hs₅ => ?_
        refine ⟨vs.length + 1 - (i + 1), by omega, h₅, tk₅, _, ys ++ [y], i + 1, rfl, ?_, by simpa using hl₅, hn₃.sameBut hs₅ (Ne.symm hDC), by rw [List.length_append, List.length_singleton]; omega, hlt, ?_, rfl, ?_, ?_⟩
        · exact W.frame _ _ h₅ hst₃ fun b hb o e => hs₅.extBut b o (fun h => by
            rcases List.mem_cons.mp hb with z | z
            · rw [z] at h; exact hId.2 h
            · rw [List.mem_singleton.mp z] at h; exact haxd.2 h) e
        · rw [e1, hq]; exact hys.append (.one hd)
        · exact fr_off (xs := [D]) F₃ (fun b o hb e => hs₅.extBut b o (by simpa using hb) e) (by simpa using Ne.symm hDL) (by intro b hb; rw [List.mem_singleton.mp hb]; exact hbase _ (Nat.le_refl _))
        · exact news_off (xs := [D]) N₃ (fun b o hb e => hs₅.extBut b o (by simpa using hb) e) (by intro b hb; rw [List.mem_singleton.mp hb]; exact nD)
    · have hin : i = vs.length := by omega
      subst hin
      refine W.done _ _ _ (by simpa using hst') fun h₂ tk₂ hk₂ => ?_
      dsimp only at hk₂
      refine ⟨m', hn'.at' fun o e => hk₂ _ o (by simpa using Ne.symm hId.1) e, fun h₃ hs₃ => ?_⟩
      have kI : ∀ b o, b ∉ [I] → H.get? b = some o → h₂.get? b = some o := hk₂
      have k23 : ∀ b o, b ∉ [C, I] → H.get? b = some o → h₃.get? b = some o := fun b o hb e => hs₃.extBut b o (fun q => hb (by rw [q]; exact .head _)) (kI b o (fun q => hb (.tail _ q)) e)
      have hacc₃ : h₃.PlainList D ys.toArray := hacc'.at fun o e => k23 _ o (fun hb => by
        rcases List.mem_cons.mp hb with e | hb
        · exact hDC e
        · exact hId.2 (List.mem_singleton.mp hb).symm) e
      obtain ⟨kD, eD⟩ := id hacc₃
      rw [List.take_of_length_le (by rw [hvs.length]; exact Nat.le_refl _)] at hys
      refine done D h₃ tk₂ ys kD hle hys (fr_off F' k23 hLz hz) (fun p hp => ?_) nD
      rcases List.mem_cons.mp hp with rfl | hp
      · exact ⟨eD, hDL, hbase _ (Nat.le_refl _)⟩
      · exact news_off N' k23 hnz p hp
  exact codeAny_compStart_list (loop _ rfl) (W.self 0 _ _ _ hst₁ (loop _ rfl))
end
end
section
section
variable {prog : Program} {w : World} {A : Around} {E : Value → Shared → Prop} {env : Env} {h₀ : Heap} {L : Addr}

theorem turn_two1 (elt : Expr) (g₁ : Comprehension) (target iter : Expr) (scope : Scope) (pos : Pos) (it acc : Value) (env : Env) :
    compTurn (.ListComp elt [g₁, ⟨target, iter, [], 0⟩] scope pos) 1 it acc env = (standAt iter.pos >>= fun _ => pyNext it >>= fun r => match r with
      | none => pure (.done .next)
      | some v => letOwnedTupleGo target it v >>= fun _ => assign target env v >>= fun _ =>
        (eval elt env >>= fun x => call (.builtin "list.append") [acc, x] >>= fun _ => pure ()) >>= fun _ =>
          again (.compLoop (.ListComp elt [g₁, ⟨target, iter, [], 0⟩] scope pos) 1 it acc env)) := by rfl
theorem turn_two0 (elt target iter target₂ iter₂ : Expr) (scope : Scope) (pos : Pos) (it acc : Value) (env : Env) :
    compTurn (.ListComp elt [⟨target, iter, [], 0⟩, ⟨target₂, iter₂, [], 0⟩] scope pos) 0 it acc env = (standAt iter.pos >>= fun _ => pyNext it >>= fun r => match r with
      | none => pure (.done .next)
      | some v => letOwnedTupleGo target it v >>= fun _ => assign target env v >>= fun _ =>
        eval iter₂ env >>= fun x => standAt iter₂.pos >>= fun _ => foldedSetIterable iter₂ env x >>= fun x => holding [x] (pyIter x) >>= fun i₂ =>
          runOwn (.compStart (.ListComp elt [⟨target, iter, [], 0⟩, ⟨target₂, iter₂, [], 0⟩] scope pos) 1 i₂ acc env) env >>= fun _ =>
          again (.compLoop (.ListComp elt [⟨target, iter, [], 0⟩, ⟨target₂, iter₂, [], 0⟩] scope pos) 0 it acc env)) := by rfl

theorem start_two1 {elt target iter : Expr} {g₁ : Comprehension} {scope : Scope} {pos : Pos} {it acc : Value} {R : Result → Shared → Prop} {s : Shared}
    (h0 : codeAny (model prog w) A (.compLoop (.ListComp elt [g₁, ⟨target, iter, [], 0⟩] scope pos) 1 it acc env) R s)
    (h : wpAny (model prog w) A (pyIter it) (fun it' s' => codeAny (model prog w) A (.compLoop (.ListComp elt [g₁, ⟨target, iter, [], 0⟩] scope pos) 1 it' acc env) R s')
      (notedBy (model prog w) A env fun x s' => R (.error x) s') s) :
    codeAny (model prog w) A (.compStart (.ListComp elt [g₁, ⟨target, iter, [], 0⟩] scope pos) 1 it acc env) R s := by
  refine codeAny_of_tree ?_
  show wpAny _ _ ((compStart (.ListComp elt [g₁, ⟨target, iter, [], 0⟩] scope pos) 1 it acc env).onRaise (fun x => do noteFrame x env; standAt theWindowsPlace)) _ _ s
  refine wpAny_notedAt ?_
  unfold compStart
  show wpAny _ _ (ask >>= _) _ _ s
  refine wpAny_bind (wpAny_askSetting (wpAny_ite ?_))
  split
  · first
      | exact wpAny_bind (wpAny_pure (wpAny_pure (And.intro rfl h0)))
      | exact wpAny_pure (And.intro rfl h0)
  · first
      | exact wpAny_bind (wpAny_rule (wpAny_bind (wpAny_standAt (wpAny_bind (wpAny_mono h (fun it' s' h' => wpAny_pure (And.intro rfl h')) fun _ _ x => x)))))
      | (refine wpAny_bind (wpAny_rule ?_); show wpAny _ _ (standAt iter.pos >>= _) _ _ s; exact wpAny_bind (wpAny_standAt (wpAny_bind (wpAny_mono h (fun it' s' h' => wpAny_pure (And.intro rfl h')) fun _ _ x => x))))

/-- the inner loop of a comprehension with two clauses: the items of a list, one by one -/
theorem inner_two {s : Shared} {elt iter : Expr} {g₁ : Comprehension} {y : Str} {py : Pos} {scope : Scope} {cl : List (Str × Addr)} {pos : Pos} {R : Result → Shared → Prop} {I l D C : Addr} {us ys : List Value} {m₀ : Str → Option Value}
    (hA : A.handled = none) (hkind : scope.kind = .function) (hy : scope.names.lookup y = some .local)
    (hit : s.heap.IsListIter I l 0) (hl : s.heap.IsList l us.toArray) (hacc : s.heap.PlainList D ys.toArray) (hn : s.heap.Ns C m₀) (hDI : D ≠ I) (hDC : D ≠ C) (hIC : I ≠ C) (hlI : l ≠ I) (hlC : l ≠ C) (hlD : l ≠ D) (hsz : ys.length + us.length ≤ sizeLine)
    (elem : ∀ v s₃ m₃, s₃.heap.Ns C m₃ → m₃ y = some v → (∀ b o, b ∉ [C, I, D] → s.heap.get? b = some o → s₃.heap.get? b = some o) → wpAny (model prog w) A (eval elt (compEnvC scope cl C env)) (fun z s₄ => z = v ∧ ∃ tk, s₄ = { s₃ with toks := tk }) (fun _ _ => False) s₃)
    (hR : ∀ h' tk m', h'.Ns C m' → h'.PlainList D (ys ++ us).toArray → (∀ b o, b ∉ [C, I, D] → s.heap.get? b = some o → h'.get? b = some o) → R (.ok .next) { s with heap := h', toks := tk }) :
    codeAny (model prog w) A (.compLoop (.ListComp elt [g₁, ⟨.Name y py, iter, [], 0⟩] scope pos) 1 (.ref I) (.ref D) (compEnvC scope cl C env)) R s := by
  have W := Walks.list (prog := prog) (w := w) (A := A) hA I l hlI us.toArray
  refine codeAny_loop rfl (fun k s' => ∃ h' tk m' i, s' = { s with heap := h', toks := tk } ∧ (h'.IsListIter I l i ∧ h'.IsList l us.toArray) ∧ h'.PlainList D (ys ++ us.take i).toArray ∧ h'.Ns C m' ∧ i ≤ us.length ∧ k = us.length + 1 - i ∧
    (∀ b o, b ∉ [C, I, D] → s.heap.get? b = some o → h'.get? b = some o)) ?_ (us.length + 1) ⟨s.heap, s.toks, m₀, 0, rfl, ⟨hit, hl⟩, by simpa using hacc, hn, Nat.zero_le _, rfl, fun _ _ _ e => e⟩
  rintro k s' ⟨H, tk, m', i, rfl, hst, hacc', hn', hi, rfl, hk⟩
  show wpAny _ A ((compTurn (.ListComp elt [g₁, ⟨.Name y py, iter, [], 0⟩] scope pos) 1 (.ref I) (.ref D) (compEnvC scope cl C env)).onRaise (fun x => do noteFrame x (compEnvC scope cl C env); theTreesLotGoes x)) _ _ _
  refine wpAny_noted ?_
  rw [turn_two1]
  refine wpAny_bind (wpAny_standAt (wpAny_bind ?_))
  by_cases hlt : i < us.length
  · refine W.item i _ _ _ (by simpa using hlt) hst fun v h₂ tk₂ hPv hst₂ hk₂ => ?_
    dsimp only at hk₂
    have hv' : us[i]? = some v := by simpa using hPv
    refine wpAny_bind (wpAny_of_eq (show letOwnedTupleGo (.Name y py) (.ref I) v = pure () from rfl) ?_)
    refine wpAny_bind (wpAny_assign_Name (wpAny_storeName_local (lookup_relabel_local hy) (hn'.at' fun o e => hk₂ _ o (by simpa using Ne.symm hIC) e) (fun h₃ hn₃ hs₃ => ?_) (by simp [compEnvC, relabel, hkind])))
    have kI : ∀ b o, b ∉ [I] → H.get? b = some o → h₂.get? b = some o := hk₂
    have k3 : ∀ b o, b ≠ C → h₂.get? b = some o → h₃.get? b = some o := fun b o hb e => hs₃.extBut b o hb e
    have k23 : ∀ b o, b ∉ [C, I] → H.get? b = some o → h₃.get? b = some o := fun b o hb e => k3 b o (fun q => hb (by rw [q]; exact .head _)) (kI b o (fun q => hb (.tail _ q)) e)
    have hst₃ : h₃.IsListIter I l (i + 1) ∧ h₃.IsList l us.toArray := W.frame _ _ _ hst₂ fun b hb o e => k3 b o (fun h => by
      rcases List.mem_cons.mp hb with z | z
      · rw [z] at h; exact hIC h
      · rw [List.mem_singleton.mp z] at h; exact hlC h) e
    have hacc₃ : h₃.PlainList D (ys ++ us.take i).toArray := hacc'.at fun o e => k23 _ o (fun hb => by
      rcases List.mem_cons.mp hb with e | hb
      · exact hDC e
      · exact hDI (List.mem_singleton.mp hb)) e
    have hk3 : ∀ b o, b ∉ [C, I, D] → s.heap.get? b = some o → h₃.get? b = some o := fun b o hb e => k23 b o (fun q => hb (by simp only [List.mem_cons, List.not_mem_nil, or_false] at q ⊢; rcases q with q | q; exact .inl q; exact .inr (.inl q))) (hk b o hb e)
    refine wpAny_bind (wpAny_bind (wpAny_mono (elem v { s with heap := h₃, toks := _ } _ hn₃ (by simp) hk3) (fun z s₄ h₄ => ?_) fun _ _ f => f.elim))
    obtain ⟨rfl, tk₄, rfl⟩ := h₄
    refine wpAny_bind (wpAny_list_append_plain (hsz := by simp only [List.size_toArray, List.length_append, List.length_take]; omega) hacc₃ fun h₅ hl₅ hs₅ => ?_)
    refine wpAny_pure (wpAny_pure ⟨rfl, us.length + 1 - (i + 1), by omega, h₅, tk₄, _, i + 1, rfl, ?_, ?_, hn₃.sameBut hs₅ (Ne.symm hDC), hlt, rfl, ?_⟩)
    · exact W.frame _ _ h₅ hst₃ fun b hb o e => hs₅.extBut b o (fun h => by
        rcases List.mem_cons.mp hb with q | q
        · rw [q] at h; exact hDI h.symm
        · rw [List.mem_singleton.mp q] at h; exact hlD h) e
    · rw [List.take_add_one, hv']
      simpa using hl₅
    · exact fun b o hb e => hs₅.extBut b o (fun q => hb (by rw [q]; simp)) (hk3 b o hb e)
  · have hin : i = us.length := by omega
    subst hin
    refine W.done _ _ _ (by simpa using hst) fun h₂ tk₂ hk₂ => ?_
    dsimp only at hk₂
    have kI : ∀ b o, b ∉ [I] → H.get? b = some o → h₂.get? b = some o := hk₂
    rw [List.take_length] at hacc'
    exact wpAny_pure (hR h₂ tk₂ m' (hn'.at' fun o e => kI _ o (by simpa using Ne.symm hIC) e) (hacc'.at fun o e => kI _ o (by simpa using hDI) e) fun b o hb e => kI b o (fun q => hb (by rw [List.mem_singleton.mp q]; simp)) (hk b o hb e))
/-- [elt for x in a list for y in a list that x leads to], the element being y -/
theorem comp_two {hh : Heap} {mm : Str → Option Value} (_F : Fr h₀ L hh mm) {s : Shared} {elt iter iter₂ : Expr} {x y : Str} {px py : Pos} {scope : Scope} {cl : List (Str × Addr)} {pos : Pos} {Q : Value → Shared → Prop}
    (hclos : closureFor scope env = pure cl) (hcell : ∀ y ∈ scope.names, y.2 ≠ .cell) (hkind : scope.kind = .function)
    (hnames : ∀ y ∈ scope.names, y.2 = .local → scope.names.lookup y.1 = some .local) (hx : scope.names.lookup x = some .local) (hy : scope.names.lookup y = some .local) (hA : A.handled = none)
    (h : wpAny (model prog w) A (eval iter env) (fun xv s₁ => ∃ (ax : Addr) (vs : List Value) (k : Nat) (m : Str → Option Value) (news : Ledger) (R : Nat → List Value → Ledger → Prop), xv = .ref ax ∧ (ax, ({ cls := .type "list", data := .seq vs.toArray k } : Obj)) ∈ news ∧ vs.length ≤ 100000 ∧ Fr h₀ L s₁.heap m ∧ News h₀ L s₁.heap news ∧ R 0 [] news ∧
      (∀ i ys nw, R i ys nw → (ax, ({ cls := .type "list", data := .seq vs.toArray k } : Obj)) ∈ nw ∧ ys.length ≤ 100000) ∧
      (∀ C i v ys nw s₃ m₃, vs[i]? = some v → R i ys nw → s₃.heap.Ns C m₃ → m₃ x = some v → Fr h₀ L s₃.heap m → News h₀ L s₃.heap nw → C ∉ nw.map (·.1) → C ≠ L →
        wpAny (model prog w) A (eval iter₂ (compEnvC scope cl C env)) (fun xv s₄ => ∃ (l : Addr) (us : List Value) (k₂ : Nat) (h' : Heap) (tk : Nat) (nw' : Ledger), xv = .ref l ∧ s₄ = { s₃ with heap := h', toks := tk } ∧ Step s₃.heap h' nw nw' ∧ (l, ({ cls := .type "list", data := .seq us.toArray k₂ } : Obj)) ∈ nw' ∧ R (i + 1) (ys ++ us) nw') (fun _ _ => False) s₃) ∧
      (∀ C v s₃ m₃, s₃.heap.Ns C m₃ → m₃ y = some v → Fr h₀ L s₃.heap m → C ≠ L → wpAny (model prog w) A (eval elt (compEnvC scope cl C env)) (fun z s₄ => z = v ∧ ∃ tk, s₄ = { s₃ with toks := tk }) (fun _ _ => False) s₃) ∧
      (∀ D h' tk ys nw k', R vs.length ys nw → Fr h₀ L h' m → News h₀ L h' ((D, { cls := .type "list", data := .seq ys.toArray k' }) :: nw) → D ∉ nw.map (·.1) → Q (.ref D) { s₁ with heap := h', toks := tk })) E s)
    (hs : ∀ x, foldedSetIterable iter env x = pure x) (hs₂ : ∀ x C, foldedSetIterable iter₂ (compEnvC scope cl C env) x = pure x) :
    wpAny (model prog w) A (eval (.ListComp elt [⟨.Name x px, iter, [], 0⟩, ⟨.Name y py, iter₂, [], 0⟩] scope pos) env) Q E s := by
  rw [eval_ListComp]
  refine wpAny_comprehension_free (use := none) rfl hs hclos hkind hnames (wpAny_mono h (fun xv s₁ h₁ => ?_) fun _ _ e => e)
  clear h
  obtain ⟨ax, vs, kx, m, news, R, rfl, hm, hsz, F, N, r0, hR, turn, elem, done⟩ := h₁
  have hsl : sizeLine = 2 ^ 24 := rfl
  have ht : s₁.heap.IsList ax vs.toArray := ⟨_, (N _ hm).1, rfl, kx, rfl⟩
  have hax : ax < s₁.heap.objs.size := Heap.lt_size (N _ hm).1
  obtain ⟨g1, g2, g3⟩ := fresh_ground F N (Nat.le_refl s₁.heap.objs.size)
  refine wpAny_pyIter_list ht ?_
  have W := Walks.list (prog := prog) (w := w) (A := A) hA s₁.heap.objs.size ax (Nat.ne_of_lt hax) vs.toArray
  have hst : (s₁.heap.push { cls := .type "list_iterator", data := .fields #[.ref ax, .int 0 0] }).IsListIter s₁.heap.objs.size ax 0 ∧ (s₁.heap.push { cls := .type "list_iterator", data := .fields #[.ref ax, .int 0 0] }).IsList ax vs.toArray :=
    ⟨⟨_, Heap.get?_push_size _ rfl, rfl, rfl⟩, ⟨_, Heap.get?_push_of_some _ (N _ hm).1, rfl, kx, rfl⟩⟩
  have Fa : Fr h₀ L (s₁.heap.push { cls := .type "list_iterator", data := .fields #[.ref ax, .int 0 0] }) m := F.push _
  have Na : News h₀ L (s₁.heap.push { cls := .type "list_iterator", data := .fields #[.ref ax, .int 0 0] }) news := news_push N _
  have hfp : ∀ b ∈ [s₁.heap.objs.size, ax], b < (s₁.heap.push { cls := .type "list_iterator", data := .fields #[.ref ax, .int 0 0] }).objs.size := fun b hb => by
    rw [Heap.size_push]
    rcases List.mem_cons.mp hb with rfl | hb
    · exact Nat.lt_succ_self _
    · rw [List.mem_singleton.mp hb]; exact Nat.lt_succ_of_lt hax
  generalize (s₁.heap.push { cls := .type "list_iterator", data := .fields #[.ref ax, .int 0 0] }) = H1 at *
  generalize s₁.heap.objs.size = I at *
  clear F N ht
  refine wpAny_newObj_type (wpAny_newFunctionEnv hcell (by intro y hy; simp at hy) (fun h₁ hns₁ hsb₁ => ?_) hkind)
  dsimp only at hns₁ hsb₁ ⊢
  generalize hH2 : H1.push { cls := .type "list", dict := none, data := .seq ([] : List Value).toArray } = H2 at hns₁ hsb₁ ⊢
  have hC : H2.objs.size = H1.objs.size + 1 := by rw [← hH2, Heap.size_push]
  have hDC : H1.objs.size ≠ H2.objs.size := by rw [hC]; exact Nat.ne_of_lt (Nat.lt_succ_self _)
  have hCle : H1.objs.size ≤ H2.objs.size := by rw [hC]; exact Nat.le_succ _
  have below : ∀ b, b < H1.objs.size → b ≠ H2.objs.size ∧ b ≠ H1.objs.size := fun b hb => ⟨by rw [hC]; exact Nat.ne_of_lt (Nat.lt_succ_of_lt hb), Nat.ne_of_lt hb⟩
  have old : ∀ b o, H1.get? b = some o → h₁.get? b = some o := fun b o e => hsb₁.extBut b o (below b (Heap.lt_size e)).1 (Heap.get?_push_of_some _ (hH2 ▸ Heap.get?_push_of_some _ e))
  have hacc : h₁.PlainList H1.objs.size #[] := ⟨_, hsb₁.extBut _ _ hDC (Heap.get?_push_of_some _ (hH2 ▸ Heap.get?_push_size _ rfl))⟩
  have hst₁ : h₁.IsListIter I ax 0 ∧ h₁.IsList ax vs.toArray := W.frame _ _ _ hst fun b _ o e => old b o e
  have hL2 : L < H1.objs.size := Fa.ns.lt
  have hbase : ∀ a, H1.objs.size ≤ a → h₀.get? a = none := fun a ha => by
    cases e : h₀.get? a with
    | none => rfl
    | some o' => exact absurd (Heap.lt_size (Fa.keep _ _ e)) (Nat.not_lt.mpr ha)
  have nnews : ∀ a, H1.objs.size ≤ a → a ∉ news.map (·.1) := fun a ha q => by
    obtain ⟨p, hp, rfl⟩ := List.mem_map.mp q
    exact absurd (Heap.lt_size (Na p hp).1) (Nat.not_lt.mpr ha)
  have hId := below I (hfp I List.mem_cons_self)
  generalize hCe : H2.objs.size = C at *
  generalize hDe : H1.objs.size = D at *
  have F₁ : Fr h₀ L h₁ m := fr_off (xs := []) Fa (fun b o _ e => old b o e) (by simp) (by simp)
  have N₁ : News h₀ L h₁ news := news_off (xs := []) Na (fun b o _ e => old b o e) (by simp)
  have hCL : C ≠ L := fun e => by rw [e] at hCle; exact absurd hL2 (Nat.not_lt.mpr hCle)
  have hDL : D ≠ L := fun e => by rw [e] at hL2; exact Nat.lt_irrefl _ hL2
  have hC0 : h₀.get? C = none := hbase _ hCle
  have hD0 : h₀.get? D = none := hbase _ (Nat.le_refl _)
  have loop : ∀ s₃ : Shared, s₃ = { s₁ with heap := h₁, toks := s₁.toks + ([] : List (Str × Value)).length } →
      codeAny (model prog w) A (.compLoop (.ListComp elt [⟨.Name x px, iter, [], 0⟩, ⟨.Name y py, iter₂, [], 0⟩] scope pos) 0 (.ref I) (.ref D) (compEnvC scope cl C env)) (compPost (model prog w) A E none Q (.ref D) C) s₃ := by
    rintro s₃ rfl
    refine codeAny_loop rfl (fun k s' => ∃ h' tk m' ys nw i, s' = { s₁ with heap := h', toks := tk } ∧ (h'.IsListIter I ax i ∧ h'.IsList ax vs.toArray) ∧ h'.PlainList D ys.toArray ∧ h'.Ns C m' ∧ R i ys nw ∧ i ≤ vs.length ∧ k = vs.length + 1 - i ∧
      Fr h₀ L h' m ∧ News h₀ L h' nw ∧ C ∉ nw.map (·.1) ∧ D ∉ nw.map (·.1) ∧ I ∉ nw.map (·.1)) ?_ (vs.length + 1)
      ⟨h₁, _, _, [], news, 0, rfl, hst₁, hacc, hns₁, r0, Nat.zero_le _, rfl, F₁, N₁, nnews _ hCle, nnews _ (Nat.le_refl _), g3⟩
    rintro k s' ⟨H, tk, m', ys, nw, i, rfl, hst', hacc', hn', hRi, hi, rfl, F', N', nC, nD, nI⟩
    show wpAny _ A ((compTurn (.ListComp elt [⟨.Name x px, iter, [], 0⟩, ⟨.Name y py, iter₂, [], 0⟩] scope pos) 0 (.ref I) (.ref D) (compEnvC scope cl C env)).onRaise (fun x => do noteFrame x (compEnvC scope cl C env); theTreesLotGoes x)) _ _ _
    refine wpAny_noted ?_
    rw [turn_two0]
    refine wpAny_bind (wpAny_standAt (wpAny_bind ?_))
    by_cases hlt : i < vs.length
    · refine W.item i _ _ _ (by simpa using hlt) hst' fun v h₂ tk₂ hPv hst₂ hk₂ => ?_
      dsimp only at hk₂
      have hv' : vs[i]? = some v := by simpa using hPv
      refine wpAny_bind (wpAny_of_eq (show letOwnedTupleGo (.Name x px) (.ref I) v = pure () from rfl) ?_)
      refine wpAny_bind (wpAny_assign_Name (wpAny_storeName_local (lookup_relabel_local hx) (hn'.at' fun o e => hk₂ _ o (by simpa using Ne.symm hId.1) e) (fun h₃ hn₃ hs₃ => ?_) (by simp [compEnvC, relabel, hkind])))
      have kI : ∀ b o, b ∉ [I] → H.get? b = some o → h₂.get? b = some o := hk₂
      have k3 : ∀ b o, b ≠ C → h₂.get? b = some o → h₃.get? b = some o := fun b o hb e => hs₃.extBut b o hb e
      have k23 : ∀ b o, b ∉ [C, I] → H.get? b = some o → h₃.get? b = some o := fun b o hb e => k3 b o (fun q => hb (by rw [q]; exact .head _)) (kI b o (fun q => hb (.tail _ q)) e)
      have hz : ∀ b ∈ [C, I], h₀.get? b = none := fun b hb => by
        rcases List.mem_cons.mp hb with rfl | hb
        · exact hC0
        · rw [List.mem_singleton.mp hb]; exact g2
      have hLz : L ∉ [C, I] := fun hb => by
        rcases List.mem_cons.mp hb with e | hb
        · exact hCL e.symm
        · exact g1 (List.mem_singleton.mp hb).symm
      have hnz : ∀ b ∈ [C, I], b ∉ nw.map (·.1) := fun b hb => by
        rcases List.mem_cons.mp hb with rfl | hb
        · exact nC
        · rw [List.mem_singleton.mp hb]; exact nI
      have F₃ := fr_off F' k23 hLz hz
      have N₃ := news_off N' k23 hnz
      obtain ⟨oI, eI, eI2⟩ := id hst₂.1
      have eI3 : h₃.get? I = some oI := k3 I oI hId.1 eI
      have hacc₃ : h₃.PlainList D ys.toArray := hacc'.at fun o e => k23 _ o (fun hb => by
        rcases List.mem_cons.mp hb with e | hb
        · exact hDC e
        · exact hId.2 (List.mem_singleton.mp hb).symm) e
      refine wpAny_bind (wpAny_mono (turn C i v ys nw { s₁ with heap := h₃, toks := _ } _ hv' hRi hn₃ (by simp) F₃ N₃ nC hCL) (fun xv s₄ h₄ => ?_) fun _ _ f => f.elim)
      obtain ⟨l, us, k₂, h₄, tk₄, nw', rfl, rfl, S, hml, hR'⟩ := h₄
      dsimp only at S
      obtain ⟨F₄, N₄⟩ := S.fr F₃ N₃
      obtain ⟨hax', hyz⟩ := hR _ _ _ hR'
      rw [List.length_append] at hyz
      obtain ⟨kD, eD⟩ := id hacc₃
      have nD' := step_not S nD eD
      have eD4 := S.keep D _ nD eD
      obtain ⟨oC, esC, epC, eC, rC⟩ := id hn₃
      have nC' := step_not S nC eC
      have hn₄ : h₄.Ns C _ := hn₃.at' fun o e => S.keep C o nC e
      have nI' := step_not S nI eI3
      have eI4 := S.keep I _ nI eI3
      refine wpAny_bind (wpAny_standAt (wpAny_bind (wpAny_of_eq (hs₂ _ C) (wpAny_bind (wpAny_holding ?_)))))
      have hl₄ : h₄.IsList l us.toArray := ⟨_, (N₄ _ hml).1, rfl, k₂, rfl⟩
      refine wpAny_pyIter_list hl₄ ?_
      obtain ⟨f1, f2, f3⟩ := fresh_ground F₄ N₄ (Nat.le_refl h₄.objs.size)
      have hI2 : (h₄.push { cls := .type "list_iterator", data := .fields #[.ref l, .int 0 0] }).IsListIter h₄.objs.size l 0 := ⟨_, Heap.get?_push_size _ rfl, rfl, rfl⟩
      have F₅ : Fr h₀ L (h₄.push { cls := .type "list_iterator", data := .fields #[.ref l, .int 0 0] }) m := F₄.push _
      have N₅ : News h₀ L (h₄.push { cls := .type "list_iterator", data := .fields #[.ref l, .int 0 0] }) nw' := news_push N₄ _
      have k5 : ∀ b o, h₄.get? b = some o → (h₄.push { cls := .type "list_iterator", data := .fields #[.ref l, .int 0 0] }).get? b = some o := fun b o e => Heap.get?_push_of_some _ e
      have eD5 := k5 _ _ eD4
      have eI5 := k5 _ _ eI4
      have hn₅ : (h₄.push { cls := .type "list_iterator", data := .fields #[.ref l, .int 0 0] }).Ns C _ := hn₄.at' fun o e => k5 _ o e
      have d1 := ne_of_lt_size eD4
      have d2 : C ≠ h₄.objs.size := Nat.ne_of_lt hn₄.lt
      have d3 := ne_of_lt_size eI4
      have d4 := ne_of_lt_size (N₄ _ hml).1
      generalize (h₄.push { cls := .type "list_iterator", data := .fields #[.ref l, .int 0 0] }) = h₅ at *
      generalize h₄.objs.size = I₂ at *
      have hlC : l ≠ C := fun e => nC' (by rw [← e]; exact List.mem_map_of_mem hml)
      have hlD : l ≠ D := fun e => nD' (by rw [← e]; exact List.mem_map_of_mem hml)
      have hz6 : ∀ b ∈ [C, I₂, D], h₀.get? b = none := fun b hb => by
        simp only [List.mem_cons, List.not_mem_nil, or_false] at hb
        rcases hb with rfl | rfl | rfl
        · exact hC0
        · exact f2
        · exact hD0
      have hL6 : L ∉ [C, I₂, D] := fun hb => by
        simp only [List.mem_cons, List.not_mem_nil, or_false] at hb
        rcases hb with e | e | e
        · exact hCL e.symm
        · exact f1 e.symm
        · exact hDL e.symm
      have hn6 : ∀ b ∈ [C, I₂, D], b ∉ nw'.map (·.1) := fun b hb => by
        simp only [List.mem_cons, List.not_mem_nil, or_false] at hb
        rcases hb with rfl | rfl | rfl
        · exact nC'
        · exact f3
        · exact nD'
      have nI6 : I ∉ [C, I₂, D] := fun hb => by
        simp only [List.mem_cons, List.not_mem_nil, or_false] at hb
        rcases hb with e | e | e
        · exact hId.1 e
        · exact d3 e
        · exact hId.2 e
      refine wpAny_bind (wpAny_runOwn ?_)
      refine (fun z => start_two1 z (wpAny_pyIter_listiter hI2 z)) ?_
      refine inner_two (s := { s₁ with heap := h₅, toks := tk₄ }) (ys := ys) hA hkind hy hI2 ⟨_, (N₅ _ hml).1, rfl, k₂, rfl⟩ ⟨_, eD5⟩ hn₅ d1 hDC d2.symm d4 hlC hlD (by omega)
        (fun v s₃ m₃ hn hm hk => elem C v s₃ m₃ hn hm (fr_off F₅ hk hL6 hz6) hCL) fun h₆ tk₆ m₆ hn₆ hacc₆ hk₆ => ?_
      exact wpAny_pure ⟨rfl, vs.length + 1 - (i + 1), by omega, h₆, tk₆, m₆, ys ++ us, nw', i + 1, rfl, ⟨⟨_, hk₆ _ _ nI6 eI5, eI2⟩, ⟨_, (news_off N₅ hk₆ hn6 _ hax').1, rfl, kx, rfl⟩⟩, hacc₆, hn₆, hR', hlt, rfl, fr_off F₅ hk₆ hL6 hz6, news_off N₅ hk₆ hn6, nC', nD', nI'⟩
    · have hin : i = vs.length := by omega
      subst hin
      refine W.done _ _ _ (by simpa using hst') fun h₂ tk₂ hk₂ => ?_
      dsimp only at hk₂
      refine wpAny_pure ⟨m', hn'.at' fun o e => hk₂ _ o (by simpa using Ne.symm hId.1) e, fun h₃ hs₃ => ?_⟩
      have kI : ∀ b o, b ∉ [I] → H.get? b = some o → h₂.get? b = some o := hk₂
      have k23 : ∀ b o, b ∉ [C, I] → H.get? b = some o → h₃.get? b = some o := fun b o hb e => hs₃.extBut b o (fun q => hb (by rw [q]; exact .head _)) (kI b o (fun q => hb (.tail _ q)) e)
      have hz : ∀ b ∈ [C, I], h₀.get? b = none := fun b hb => by
        rcases List.mem_cons.mp hb with rfl | hb
        · exact hC0
        · rw [List.mem_singleton.mp hb]; exact g2
      have hLz : L ∉ [C, I] := fun hb => by
        rcases List.mem_cons.mp hb with e | hb
        · exact hCL e.symm
        · exact g1 (List.mem_singleton.mp hb).symm
      have hnz : ∀ b ∈ [C, I], b ∉ nw.map (·.1) := fun b hb => by
        rcases List.mem_cons.mp hb with rfl | hb
        · exact nC
        · rw [List.mem_singleton.mp hb]; exact nI
      have hacc₃ : h₃.PlainList D ys.toArray := hacc'.at fun o e => k23 _ o (fun hb => by
        rcases List.mem_cons.mp hb with e | hb
        · exact hDC e
        · exact hId.2 (List.mem_singleton.mp hb).symm) e
      obtain ⟨kD, eD⟩ := id hacc₃
      refine done D h₃ tk₂ ys nw kD hRi (fr_off F' k23 hLz hz) (fun p hp => ?_) nD
      rcases List.mem_cons.mp hp with rfl | hp
      · exact ⟨eD, hDL, hD0⟩
      · exact news_off N' k23 hnz p hp
  exact codeAny_compStart_list (loop _ rfl) (W.self 0 _ _ _ hst₁ (loop _ rfl))
end
end
section
noncomputable abbrev ar (dp un : Nat) (fr : Option (List Env)) (gd : Option (List Code)) : Around := { handled := none, depth := dp, frames := fr, guards := gd, units := un }
noncomputable abbrev tupO (vs : List Value) (n : Nat) : Obj := { cls := .type "tuple", data := .seq vs.toArray n }

theorem Step.addOld {h h' : Heap} {news nw : Ledger} (S : Step h h' news nw) (sub : ∀ q ∈ news, q ∈ nw) : Step h h' news (nw ++ news) :=
  S.sub fun q hq => (List.mem_append.mp hq).elim id (sub q)
theorem DatIn.left {nw news : Ledger} {v : Value} {d : Dat} (h : DatIn nw v d) : DatIn (nw ++ news) v d := h.mono fun _ h => List.mem_append_left _ h
theorem DatIn.right {nw news : Ledger} {v : Value} {d : Dat} (h : DatIn news v d) : DatIn (nw ++ news) v d := h.mono fun _ h => List.mem_append_right _ h
theorem DatAll.left {nw news : Ledger} {v : List Value} {d : List Dat} (h : DatAll nw v d) : DatAll (nw ++ news) v d := h.mono fun _ h => List.mem_append_left _ h
theorem DatAll.right {nw news : Ledger} {v : List Value} {d : List Dat} (h : DatAll news v d) : DatAll (nw ++ news) v d := h.mono fun _ h => List.mem_append_right _ h

theorem DatAll.dropLast {news : Ledger} : ∀ {vs : List Value} {ds : List Dat}, DatAll news vs ds → DatAll news vs.dropLast ds.dropLast
  | _, _, .nil => .nil
  | _, _, .cons _ .nil => .nil
  | _, _, .cons h (.cons h2 r) => .cons h (DatAll.dropLast (.cons h2 r))
theorem DatAll.rev {news : Ledger} {vs : List Value} {ds : List Dat} (h : DatAll news vs ds) : DatAll news vs.reverse ds.reverse := by
  induction vs generalizing ds with
  | nil => cases h; exact .nil
  | cons v vs ih =>
    cases h with
    | cons h r => rw [List.reverse_cons, List.reverse_cons]; exact (ih r).append (.one h)

theorem dat_of {h₀ h : Heap} {L : Addr} {news : Ledger} (_ : News h₀ L h news) {v : Value} {d : Dat} (h : DatIn news v d) : DatIn news v d := h

inductive Atom : Dat → Prop
  | none : Atom .none
  | int (i : Int) : Atom (.int i)
  | str (x : Str) : Atom (.str x)
  | bytes (b : Array UInt8) : Atom (.bytes b)

noncomputable def isRefD : Dat → Bool
  | .tuple [.str x, _, _, _, _] => x == Str.ofString "ref"
  | _ => false

theorem isRefD_ne {ds : List Dat} (h : ds.length ≠ 5) : isRefD (.tuple ds) = false := by
  unfold isRefD
  split
  · rename_i q; cases q; exact absurd rfl h
  · rfl

theorem isRefD_five {ds : List Dat} (h : isRefD (.tuple ds) = true) : ds.length = 5 := by
  by_cases h5 : ds.length = 5
  · exact h5
  · rw [isRefD_ne h5] at h; cases h

noncomputable def isTup : Dat → Bool
  | .tuple _ => true
  | _ => false

/-- what is_ref asks of its argument -/
inductive Sh5 : Dat → Prop
  | atom {d : Dat} (h : Atom d) : Sh5 d
  | five (x : Str) (d1 d2 d3 d4 : Dat) : Sh5 (.tuple [.str x, d1, d2, d3, d4])
  | other {ds : List Dat} (h : ds.length ≠ 5) (hz : ds.length ≤ 100) : Sh5 (.tuple ds)

/-- the three names that a reference may bear -/
inductive Who : Str → Prop
  | A : Who (Str.ofString "A")
  | B : Who (Str.ofString "B")
  | C : Who (Str.ofString "C")

def RefL (lo hi : Nat) (ds : List Dat) : Prop :=
  ∃ (who : Str) (gs : List Str) (rows : List Dat) (part : Dat), ds = [.str (Str.ofString "ref"), .str who, .tuple (gs.map Dat.str), .tuple rows, part] ∧ Who who ∧ lo ≤ gs.length ∧ gs.length ≤ hi ∧ rows.length ≤ 4

/-- trees of tuples, n deep at most; what has five parts is a reference -/
def Good (lo hi : Nat) : Nat → Dat → Prop
  | 0, d => Atom d
  | n + 1, d => Atom d ∨ ∃ ds, d = .tuple ds ∧ ds.length ≤ 8 ∧ (∀ e ∈ ds, Good lo hi n e) ∧ (ds.length = 5 → RefL lo hi ds)

theorem Good.succ {lo hi : Nat} : ∀ {n : Nat} {d : Dat}, Good lo hi n d → Good lo hi (n + 1) d
  | 0, _, h => .inl h
  | _ + 1, _, .inl h => .inl h
  | _ + 1, _, .inr ⟨ds, e, h1, h2, h3⟩ => .inr ⟨ds, e, h1, fun x hx => Good.succ (h2 x hx), h3⟩
theorem Good.le {lo hi : Nat} {n m : Nat} {d : Dat} (h : Good lo hi n d) (hm : n ≤ m) : Good lo hi m d := by
  induction hm with
  | refl => exact h
  | step _ ih => exact ih.succ

theorem Good.items {lo hi : Nat} : ∀ {n : Nat} {ds : List Dat}, Good lo hi n (.tuple ds) → ∀ e ∈ ds, Good lo hi n e
  | 0, _, h => nomatch h
  | _ + 1, _, .inl h => nomatch h
  | _ + 1, _, .inr ⟨_, e, _, h2, _⟩ => fun x hx => Good.succ (h2 x (by cases e; exact hx))

theorem Good.cases {lo hi n : Nat} {d : Dat} (h : Good lo hi n d) : Atom d ∨ ∃ ds, d = .tuple ds ∧ ds.length ≤ 8 ∧ ∀ e ∈ ds, Good lo hi n e := by
  cases n with
  | zero => exact .inl h
  | succ n =>
    rcases h with h | ⟨ds, rfl, h1, h2, _⟩
    · exact .inl h
    · exact .inr ⟨ds, rfl, h1, fun e he => (h2 e he).succ⟩

theorem sh5_of {lo hi : Nat} {ds : List Dat} (h1 : ds.length ≤ 8) (h3 : ds.length = 5 → RefL lo hi ds) : Sh5 (.tuple ds) := by
  by_cases h5 : ds.length = 5
  · obtain ⟨who, gs, rows, part, rfl, _⟩ := h3 h5
    exact .five _ _ _ _ _
  · exact .other h5 (by omega)
theorem Good.sh5 {lo hi n : Nat} {d : Dat} (h : Good lo hi n d) : Sh5 d := by
  cases n with
  | zero => exact .atom h
  | succ n =>
    rcases h with h | ⟨ds, rfl, h1, h2, h3⟩
    · exact .atom h
    · exact sh5_of h1 h3

/-! what the program computes -/
mutual
noncomputable def exch (f : Dat → Dat) : Dat → Dat
  | .tuple ds => if isRefD (.tuple (exchs f ds)) then f (.tuple (exchs f ds)) else .tuple (exchs f ds)
  | .none => .none
  | .bool b => .bool b
  | .int i => .int i
  | .str x => .str x
  | .bytes b => .bytes b
  | .list ds => .list ds
noncomputable def exchs (f : Dat → Dat) : List Dat → List Dat
  | [] => []
  | d :: ds => exch f d :: exchs f ds
end
theorem exchs_map (f : Dat → Dat) : ∀ ds : List Dat, exchs f ds = ds.map (exch f)
  | [] => by rw [exchs]; rfl
  | d :: ds => by rw [exchs, exchs_map f ds]; rfl

theorem exchs_length (f : Dat → Dat) (ds : List Dat) : (exchs f ds).length = ds.length := by rw [exchs_map, List.length_map]
theorem exch_atom (f : Dat → Dat) {d : Dat} (h : Atom d) : exch f d = d := by cases h <;> rw [exch]
theorem exch_tuple_ne (f : Dat → Dat) {ds : List Dat} (h : ds.length ≠ 5) : exch f (.tuple ds) = .tuple (exchs f ds) := by
  rw [exch, isRefD_ne (by rw [exchs_length]; exact h), if_neg Bool.false_ne_true]
theorem exchs_strs (f : Dat → Dat) (gs : List Str) : exchs f (gs.map .str) = gs.map .str := by
  rw [exchs_map, List.map_map]; exact List.map_congr_left fun x _ => exch_atom f (.str x)
theorem refL_exch {lo hi : Nat} {ds : List Dat} (hhi : hi ≤ 4) (f : Dat → Dat) (h : RefL lo hi ds) : RefL lo hi (exchs f ds) := by
  obtain ⟨who, gs, rows, part, rfl, hw, h1, h2, h3⟩ := h
  refine ⟨who, gs, exchs f rows, exch f part, ?_, hw, h1, h2, by rw [exchs_length]; exact h3⟩
  simp only [exchs]
  rw [exch_atom f (.str _), exch_atom f (.str _), exch_tuple_ne f (by rw [List.length_map]; omega), exchs_strs, exch_tuple_ne f (by omega)]

noncomputable def rot (x : Str) : Str := if x = Str.ofString "A" then Str.ofString "B" else if x = Str.ofString "B" then Str.ofString "C" else Str.ofString "A"
noncomputable def tor (x : Str) : Str := if x = Str.ofString "B" then Str.ofString "A" else if x = Str.ofString "C" then Str.ofString "B" else Str.ofString "C"

noncomputable def turnD : Dat → Dat
  | .tuple [_, .str who, .tuple gs, rows, part] => .tuple [.str (Str.ofString "ref"), .str (rot who), .tuple (gs ++ [.str (Str.ofString "T")]), rows, part]
  | d => d
noncomputable def contD : Dat → Dat
  | .tuple [_, .str who, .tuple gs, rows, part] => .tuple [.str (Str.ofString "ref"), .str (tor who), .tuple gs.dropLast, rows, part]
  | d => d

mutual
noncomputable def hand : Dat → Dat
  | .tuple ds => if isRefD (.tuple ds) then turnD (.tuple (hands ds)) else .tuple (hands ds)
  | .none => .none
  | .bool b => .bool b
  | .int i => .int i
  | .str x => .str x
  | .bytes b => .bytes b
  | .list ds => .list ds
noncomputable def hands : List Dat → List Dat
  | [] => []
  | d :: ds => hand d :: hands ds
end
theorem hands_map : ∀ ds : List Dat, hands ds = ds.map hand
  | [] => by rw [hands]; rfl
  | d :: ds => by rw [hands, hands_map ds]; rfl

theorem hands_length (ds : List Dat) : (hands ds).length = ds.length := by rw [hands_map, List.length_map]
theorem hand_atom {d : Dat} (h : Atom d) : hand d = d := by cases h <;> rw [hand]
theorem hand_tuple_ne {ds : List Dat} (h : ds.length ≠ 5) : hand (.tuple ds) = .tuple (hands ds) := by
  rw [hand, isRefD_ne h, if_neg Bool.false_ne_true]
theorem hands_strs (gs : List Str) : hands (gs.map .str) = gs.map .str := by
  rw [hands_map, List.map_map]; exact List.map_congr_left fun x _ => hand_atom (.str x)
theorem ref_true (d1 d2 d3 d4 : Dat) : isRefD (.tuple [.str (Str.ofString "ref"), d1, d2, d3, d4]) = true := by
  unfold isRefD; exact beq_self_eq_true _
theorem hand_ref {who : Str} {gs : List Str} {rows : List Dat} {part : Dat} (hg : gs.length ≤ 4) (hr : rows.length ≤ 4) :
    hand (.tuple [.str (Str.ofString "ref"), .str who, .tuple (gs.map Dat.str), .tuple rows, part]) = turnD (.tuple [.str (Str.ofString "ref"), .str who, .tuple (gs.map Dat.str), .tuple (hands rows), hand part]) := by
  rw [hand, ref_true, if_pos rfl]
  simp only [hands]
  rw [hand_atom (.str _), hand_atom (.str _), hand_tuple_ne (by rw [List.length_map]; omega), hands_strs, hand_tuple_ne (by omega)]

mutual
noncomputable def refs : Dat → List Dat
  | .tuple ds => (if isRefD (.tuple ds) then [.tuple ds] else []) ++ refss ds
  | _ => []
noncomputable def refss : List Dat → List Dat
  | [] => []
  | d :: ds => refs d ++ refss ds
end

mutual
noncomputable def sz : Dat → Nat
  | .tuple ds => 1 + szs ds
  | _ => 1
noncomputable def szs : List Dat → Nat
  | [] => 0
  | d :: ds => sz d + szs ds
end
theorem szs_append : ∀ (a b : List Dat), szs (a ++ b) = szs a + szs b
  | [], b => by simp [szs]
  | d :: a, b => by simp only [List.cons_append, szs, szs_append a b]; omega
theorem szs_reverse : ∀ a : List Dat, szs a.reverse = szs a
  | [] => rfl
  | d :: a => by rw [List.reverse_cons, szs_append, szs_reverse a]; simp only [szs]; omega
theorem sz_pos (d : Dat) : 1 ≤ sz d := by cases d <;> simp only [sz] <;> omega
theorem length_szs : ∀ a : List Dat, a.length ≤ szs a
  | [] => Nat.le_refl _
  | d :: a => by have := sz_pos d; have := length_szs a; simp only [List.length_cons, szs]; omega
theorem refss_map : ∀ a : List Dat, refss a = a.flatMap refs
  | [] => by rw [refss]; rfl
  | d :: a => by rw [refss, refss_map a]; rfl
end
section
section
variable {prog : Program} {w : World} {A : Around} {s : Shared} {h₀ : Heap} {L : Addr} {m : Str → Option Value} {news : Ledger} {Q E : Value → Shared → Prop}

theorem m_len {a : Addr} {vs : List Value} {n : Nat} (N : News h₀ L s.heap news) (hm : (a, tupO vs n) ∈ news) (hz : vs.length ≤ 100)
    (h : Q (.int vs.length (s.toks + 1)) { s with toks := s.toks + 1 + 1 }) : wpAny (model prog w) A (call (.builtin "len") [.ref a]) Q E s := by
  have ht : IsTup s.heap a vs.toArray := ⟨_, (N _ hm).1, rfl, n, rfl⟩
  refine len_tuple ht ?_ ?_
  · simp only [List.size_toArray]; omega
  · simpa using h

theorem m_item {a : Addr} {vs : List Value} {n : Nat} {value slice : Expr} {k : Int} {u : Tok} {j : Nat} {x : Value}
    (N : News h₀ L s.heap news) (hm : (a, tupO vs n) ∈ news) (hlo : -(2 ^ 63) ≤ k) (hhi : k < 2 ^ 63) (hj : seqIndex? k vs.length = some j) (hx : vs[j]? = some x) (h : Q x s)
    (hs : subscripted slice false (.ref a) (.int k u) = operate [.ref a, .int k u] (getItem (.ref a) (.int k u))) :
    wpAny (model prog w) A (subscriptTail value slice (.ref a) (.int k u)) Q E s := item_tupleT ⟨_, (N _ hm).1, rfl, n, rfl⟩ hlo hhi hj hx h hs

theorem m_add0 {t b : Addr} {ws : List Value} {n n2 : Nat} (F : Fr h₀ L s.heap m) (N : News h₀ L s.heap news) (ht : (t, tupO [] n) ∈ news) (hb : (b, tupO ws n2) ∈ news) (hsz : ws.length ≤ 100) (h : Q (.ref b) s) :
    wpAny (model prog w) A (binaryOp .Add (.ref t) (.ref b)) Q E s :=
  add_tuples F N (vs := []) (ws := ws) ⟨_, (N _ ht).1, rfl, n, rfl⟩ ⟨_, (N _ hb).1, rfl, n2, rfl⟩ (fun _ => h) (fun h => absurd rfl h) (fun h => absurd rfl h) (by have : sizeLine = 2 ^ 24 := rfl; simp only [List.length_nil]; omega)
theorem m_add {t b : Addr} {v u : Value} {vs ws : List Value} {n n2 : Nat} (F : Fr h₀ L s.heap m) (N : News h₀ L s.heap news) (ht : (t, tupO (v :: vs) n) ∈ news) (hb : (b, tupO (u :: ws) n2) ∈ news) (hsz : vs.length + ws.length ≤ 100)
    (h : ∀ D h', Fr h₀ L h' m → News h₀ L h' ((D, tupO (v :: vs ++ u :: ws) 0) :: news) → (∀ p ∈ news, p.1 < D) → Q (.ref D) { s with heap := h' }) :
    wpAny (model prog w) A (binaryOp .Add (.ref t) (.ref b)) Q E s :=
  add_tuples F N (vs := v :: vs) (ws := u :: ws) ⟨_, (N _ ht).1, rfl, n, rfl⟩ ⟨_, (N _ hb).1, rfl, n2, rfl⟩ (fun h => nomatch h) (fun _ h => nomatch h) (fun _ _ h' F' N' => h _ h' F' N' fun p hp => Heap.lt_size (N p hp).1) (by have : sizeLine = 2 ^ 24 := rfl; simp only [List.length_cons]; omega)

theorem m_item0 {a : Addr} {vs : List Value} {n : Nat} {value slice : Expr} {u : Tok} {x : Value}
    (N : News h₀ L s.heap news) (hm : (a, tupO (x :: vs) n) ∈ news) (h : Q x s)
    (hs : subscripted slice false (.ref a) (.int 0 u) = operate [.ref a, .int 0 u] (getItem (.ref a) (.int 0 u))) :
    wpAny (model prog w) A (subscriptTail value slice (.ref a) (.int 0 u)) Q E s :=
  m_item (j := 0) N hm (by decide) (by decide) (by simp [seqIndex?] <;> omega) rfl h hs

theorem slicePart_of {v : Value} {k : Option Int} {Q : Option Int → Shared → Prop} (hv : IsPart v k) (h : Q k s) : wpAny (model prog w) A (Builtin.Slice.slicePartIndex v) Q E s := by
  cases hv with
  | none => exact slicePart_none h
  | int i t => exact slicePart_int h

theorem sliceApplied_of {sl : Addr} {a b c : Value} {lo hi st : Option Int} {n : Int} {x y : Int} {k : Nat} {Q : Int × Int × Nat → Shared → Prop} (hs : s.heap.IsSliceOf sl a b c) (pa : IsPart a lo) (pb : IsPart b hi) (pc : IsPart c st)
    (h0 : (st.getD 1 == 0) = false) (e : Builtin.Slice.sliceAdjust lo hi (st.getD 1) n = (x, y)) (e2 : Builtin.Slice.slicePlaces x y (st.getD 1) = k) (h : Q (x, st.getD 1, k) s) :
    wpAny (model prog w) A (Builtin.Slice.sliceApplied (.ref sl) (pure n)) Q E s := by
  obtain ⟨os, hos, hcs, hds⟩ := id hs
  unfold Builtin.Slice.sliceApplied Builtin.Slice.sliceFields
  refine wpAny_bind (wpAny_bind (wpAny_field hos hds (x := a) rfl (wpAny_bind (wpAny_field hos hds (x := b) rfl (wpAny_bind (wpAny_field hos hds (x := c) rfl (wpAny_pure ?_)))))))
  refine wpAny_bind (slicePart_of pc ?_)
  show wpAny _ _ (if ((st.getD 1) == 0) = true then _ else _) _ _ s
  rw [if_neg (by rw [h0]; exact Bool.false_ne_true)]
  refine wpAny_bind (slicePart_of pa (wpAny_bind (slicePart_of pb (wpAny_bind (wpAny_pure ?_)))))
  show wpAny _ _ (match Builtin.Slice.sliceAdjust lo hi (st.getD 1) n with | (lo, hi) => pure (lo, st.getD 1, Builtin.Slice.slicePlaces lo hi (st.getD 1))) _ _ s
  rw [e]
  show wpAny _ _ (pure (x, st.getD 1, Builtin.Slice.slicePlaces x y (st.getD 1))) _ _ s
  rw [e2]
  exact wpAny_pure h

theorem getItem_tuple_slice {t sl : Addr} {items : Array Value} {a b c : Value} {lo hi st : Option Int} {x y : Int} {k : Nat} {zs : List Value} (ht : IsTup s.heap t items) (hs : s.heap.IsSliceOf sl a b c) (pa : IsPart a lo) (pb : IsPart b hi) (pc : IsPart c st)
    (h0 : (st.getD 1 == 0) = false) (e : Builtin.Slice.sliceAdjust lo hi (st.getD 1) items.size = (x, y)) (e2 : Builtin.Slice.slicePlaces x y (st.getD 1) = k)
    (hno : (x == 0 && st.getD 1 == 1 && k == items.size) = false) (hz : ((List.range k).filterMap fun (i : Nat) => items[(x + (i : Int) * st.getD 1).toNat]?) = zs) (hsz : zs.length ≤ sizeLine)
    (h : Q (.ref s.heap.objs.size) { s with heap := s.heap.push { cls := .type "tuple", data := .seq zs.toArray } }) : wpAny (model prog w) A (getItem (.ref t) (.ref sl)) Q E s := by
  obtain ⟨os, hos, hcs, hds⟩ := id hs
  have hTs : s.TypeIs (.ref sl) "slice" := ⟨os, hos, hcs⟩
  have hdrop : sizeOk (.seq zs.toArray) := by
    show zs.toArray.size ≤ sizeLine
    rw [List.size_toArray]; exact hsz
  unfold getItem
  try with_reducible refine wpAny_holding ?_
  first | refine wpAny_bind (wpAny_pure ?_) | skip
  refine wpAny_bind (wpAny_sequenceKey ht.typeIs (by decide) ?_)
  refine wpAny_bind (wpAny_callSpecial?_slot (name := Str.ofString "__getitem__") ht.typeIs slot_tuple_getitem
    (wpAny_call_entry slot_tuple_getitem ht.typeIs entry_tuple_getitem ?_ (args_tuple_getitem _ _)))
  show wpAny _ _ (Builtin.Tuple.tupleItemsOf (.ref t) >>= _) _ _ s
  refine wpAny_bind (tupleItemsOf_ ht ?_)
  refine wpAny_bind (wpAny_typeOf hTs ?_)
  rw [if_pos (by decide)]
  refine wpAny_bind (sliceApplied_of hs pa pb pc h0 e e2 ?_)
  show wpAny _ _ (if (x == 0 && st.getD 1 == 1 && k == items.size) = true then _ else _) _ _ s
  rw [if_neg (by rw [hno]; exact Bool.false_ne_true), hz]
  first
    | exact wpAny_bind (m := Builtin.Tuple.tupleExact _) (wpAny_newObj_type (wpAny_pure ⟨_, rfl, wpAny_pure h⟩) hdrop)
    | exact wpAny_bind (m := Builtin.Tuple.tupleExact _) (wpAny_newObj_type (wpAny_bind (wpAny_pure (wpAny_pure ⟨_, rfl, wpAny_pure h⟩))) hdrop)
    | exact wpAny_bind (wpAny_bind (m := Builtin.Tuple.tupleExact _) (wpAny_newObj_type (wpAny_pure (wpAny_pure ⟨_, rfl, wpAny_pure h⟩)) hdrop))
    | exact wpAny_bind (wpAny_bind (m := Builtin.Tuple.tupleExact _) (wpAny_newObj_type (wpAny_pure ⟨_, rfl, wpAny_pure h⟩) hdrop))

theorem m_slice {value slice : Expr} {t : Addr} {vs : List Value} {n : Nat} {a b c : Value} {lo hi st : Option Int} {x y : Int} {k : Nat} {zs : List Value} {ops : List Value}
    (F : Fr h₀ L s.heap m) (N : News h₀ L s.heap news) (hm : (t, tupO vs n) ∈ news) (pa : IsPart a lo) (pb : IsPart b hi) (pc : IsPart c st)
    (h0 : (st.getD 1 == 0) = false) (e : Builtin.Slice.sliceAdjust lo hi (st.getD 1) vs.length = (x, y)) (e2 : Builtin.Slice.slicePlaces x y (st.getD 1) = k)
    (hno : (x == 0 && st.getD 1 == 1 && k == vs.length) = false) (hz : ((List.range k).filterMap fun (i : Nat) => vs[(x + (i : Int) * st.getD 1).toNat]?) = zs) (hsz : zs.length ≤ sizeLine)
    (h : ∀ D h', Fr h₀ L h' m → News h₀ L h' ((D, tupO zs 0) :: news) → (∀ p ∈ news, p.1 < D) → Q (.ref D) { s with heap := h' })
    (hs : subscripted slice false (.ref t) (.ref s.heap.objs.size) = operate ops (getItem (.ref t) (.ref s.heap.objs.size)))
    (hg : ∀ r, letTemporaryGo value (.ref t) r = pure ()) :
    wpAny (model prog w) A (subscriptTail value slice (.ref t) (.ref s.heap.objs.size)) Q E { s with heap := s.heap.push { cls := .type "slice", data := .fields #[a, b, c] } } := by
  have ht : IsTup s.heap t vs.toArray := ⟨_, (N _ hm).1, rfl, n, rfl⟩
  have ht' : IsTup (s.heap.push { cls := .type "slice", data := .fields #[a, b, c] }) t vs.toArray := ht.keeps fun _ _ e => Heap.get?_push_of_some _ e
  refine subscriptTail_ops (s := { s with heap := s.heap.push { cls := .type "slice", data := .fields #[a, b, c] } }) ht'.typeIs slot_tuple_getitem.lookup
    (getItem_tuple_slice ht' (Heap.IsSliceOf.new ..) pa pb pc h0 (by simpa using e) e2 (by simpa using hno) (by simpa using hz) hsz ?_) hs hg
  have N1 := News.push (F.push { cls := .type "slice", data := .fields #[a, b, c] }) (N.grown fun _ _ e => Heap.get?_push_of_some _ e) { cls := .type "tuple", data := .seq zs.toArray }
  exact h _ _ ((F.push _).push _) N1 fun p hp => Heap.lt_size (news_push N _ p hp).1
end

noncomputable abbrev rotD : List (PyData × PyData) := [(.str (Str.ofString "A"), .str (Str.ofString "B")), (.str (Str.ofString "B"), .str (Str.ofString "C")), (.str (Str.ofString "C"), .str (Str.ofString "A"))]
noncomputable abbrev torD : List (PyData × PyData) := [(.str (Str.ofString "B"), .str (Str.ofString "A")), (.str (Str.ofString "C"), .str (Str.ofString "B")), (.str (Str.ofString "A"), .str (Str.ofString "C"))]
theorem rot_look {x : Str} (h : Who x) : PySem.Spec.lookup (.str x) rotD = some (.str (rot x)) := by
  cases h
  · rw [show rot (Str.ofString "A") = Str.ofString "B" from by decide +kernel]; rfl
  · rw [show rot (Str.ofString "B") = Str.ofString "C" from by decide +kernel]; rfl
  · rw [show rot (Str.ofString "C") = Str.ofString "A" from by decide +kernel]; rfl
theorem tor_look {x : Str} (h : Who x) : PySem.Spec.lookup (.str x) torD = some (.str (tor x)) := by
  cases h
  · rw [show tor (Str.ofString "A") = Str.ofString "C" from by decide +kernel]; rfl
  · rw [show tor (Str.ofString "B") = Str.ofString "A" from by decide +kernel]; rfl
  · rw [show tor (Str.ofString "C") = Str.ofString "B" from by decide +kernel]; rfl

section
variable {prog : Program} {w : World} {A : Around} {s : Shared} {h₀ : Heap} {L : Addr} {news : Ledger} {Q E : Value → Shared → Prop}
theorem m_rot {d : Addr} {o : Obj} {k1 k2 k3 v1 v2 v3 t : Tok} {x : Str} (N : News h₀ L s.heap news) (hp : (d, o) ∈ news) (lo : (d == sysModules) = false)
    (hd : o.IsDictOf (strKind prog w) (strPairs [(.str (Str.ofString "A") k1, .str (Str.ofString "B") v1), (.str (Str.ofString "B") k2, .str (Str.ofString "C") v2), (.str (Str.ofString "C") k3, .str (Str.ofString "A") v3)])) (hw : Who x)
    (h : ∀ u, Q (.str (rot x) u) { s with toks := s.toks + 1 }) :
    wpAny (model prog w) A (getItem (.ref d) (.str x t)) Q E s :=
  getItem_tab (D := rotD) PyProof.V.same_str (strKind_is prog w x t) (TabAt.ofNews N hp lo hd (.cons (.str _ _) (.cons (.str _ _) (.cons (.str _ _) .nil)))) (rot_look hw) (fun v hv => by obtain ⟨u, rfl⟩ := PyProof.V.Flat.str_inv hv; exact h u)
theorem m_tor {d : Addr} {o : Obj} {k1 k2 k3 v1 v2 v3 t : Tok} {x : Str} (N : News h₀ L s.heap news) (hp : (d, o) ∈ news) (lo : (d == sysModules) = false)
    (hd : o.IsDictOf (strKind prog w) (strPairs [(.str (Str.ofString "B") k1, .str (Str.ofString "A") v1), (.str (Str.ofString "C") k2, .str (Str.ofString "B") v2), (.str (Str.ofString "A") k3, .str (Str.ofString "C") v3)])) (hw : Who x)
    (h : ∀ u, Q (.str (tor x) u) { s with toks := s.toks + 1 }) :
    wpAny (model prog w) A (getItem (.ref d) (.str x t)) Q E s :=
  getItem_tab (D := torD) PyProof.V.same_str (strKind_is prog w x t) (TabAt.ofNews N hp lo hd (.cons (.str _ _) (.cons (.str _ _) (.cons (.str _ _) .nil)))) (tor_look hw) (fun v hv => by obtain ⟨u, rfl⟩ := PyProof.V.Flat.str_inv hv; exact h u)
end

theorem but_last (vs : List Value) (hv : vs ≠ []) :
    Builtin.Slice.sliceAdjust none (some (-1)) ((none : Option Int).getD 1) vs.length = (0, (vs.length : Int) - 1) ∧ Builtin.Slice.slicePlaces 0 ((vs.length : Int) - 1) ((none : Option Int).getD 1) = vs.length - 1 ∧
    ((0 : Int) == 0 && (none : Option Int).getD 1 == 1 && vs.length - 1 == vs.length) = false ∧ ((List.range (vs.length - 1)).filterMap fun (i : Nat) => vs[((0 : Int) + (i : Int) * (none : Option Int).getD 1).toNat]?) = vs.dropLast := by
  have hp : 0 < vs.length := List.length_pos_iff.mpr hv
  refine ⟨?_, ?_, ?_, ?_⟩
  · unfold Builtin.Slice.sliceAdjust
    simp
    omega
  · unfold Builtin.Slice.slicePlaces
    simp
    omega
  · have : (vs.length - 1 == vs.length) = false := by rw [beq_eq_false_iff_ne]; omega
    rw [this, Bool.and_false]
  · have e : (fun (i : Nat) => vs[((0 : Int) + (i : Int) * (none : Option Int).getD 1).toNat]?) = fun i => vs[0 + i]? := by
      funext i
      have : ((0 : Int) + (i : Int) * (none : Option Int).getD 1).toNat = 0 + i := by simp
      rw [this]
    rw [e]
    have := pick_run vs.toArray 0 (vs.length - 1)
    rw [List.filterMap_map] at this
    have e2 : ((fun x => vs.toArray[x]?) ∘ fun x => 0 + x) = fun k => vs[0 + k]? := by funext k; simp
    rw [e2] at this
    rw [this]
    simp [List.dropLast_eq_take]

theorem rev_all (vs : List Value) :
    Builtin.Slice.sliceAdjust none none ((some (-1) : Option Int).getD 1) vs.length = ((vs.length : Int) - 1, -1) ∧ Builtin.Slice.slicePlaces ((vs.length : Int) - 1) (-1) ((some (-1) : Option Int).getD 1) = vs.length ∧
    (((vs.length : Int) - 1) == 0 && (some (-1) : Option Int).getD 1 == 1 && vs.length == vs.length) = false ∧ ((List.range vs.length).filterMap fun (i : Nat) => vs[((vs.length : Int) - 1 + (i : Int) * (some (-1) : Option Int).getD 1).toNat]?) = vs.reverse := by
  refine ⟨?_, ?_, ?_, ?_⟩
  · unfold Builtin.Slice.sliceAdjust
    simp
  · unfold Builtin.Slice.slicePlaces
    simp
    split <;> omega
  · simp
  · have e : ((List.range vs.length).filterMap fun (i : Nat) => vs[((vs.length : Int) - 1 + (i : Int) * (some (-1) : Option Int).getD 1).toNat]?) = ((List.range vs.length).map (fun k => vs.length - 1 - k)).filterMap (fun k => vs[k]?) := by
      rw [List.filterMap_map]
      congr 1
      funext i
      have : ((vs.length : Int) - 1 + (i : Int) * (some (-1) : Option Int).getD 1).toNat = vs.length - 1 - i := by simp only [Option.getD_some]; omega
      rw [this]; rfl
    rw [e, krv_range, List.filterMap_reverse]
    have := krv_all vs.toArray
    simp only [List.size_toArray, List.getElem?_toArray] at this
    rw [this]
end
section
open PySem.SeqAt

theorem DatAll.snoc' {news : Ledger} {vs : List Value} {ds : List Dat} {d : Dat} (h : DatAll news vs (ds ++ [d])) : ∃ us v, vs = us ++ [v] ∧ DatAll news us ds ∧ DatIn news v d := by
  induction ds generalizing vs with
  | nil =>
    rcases h with _ | ⟨h1, h2⟩
    cases h2
    exact ⟨[], _, rfl, .nil, h1⟩
  | cons e ds ih =>
    rcases h with _ | ⟨h1, h2⟩
    obtain ⟨us, v, rfl, h3, h4⟩ := ih h2
    exact ⟨_ :: us, v, rfl, .cons h1 h3, h4⟩
theorem news_ne {h₀ h : Heap} {L a b : Addr} {o1 o2 : Obj} {news : Ledger} (N : News h₀ L h news) (h1 : (a, o1) ∈ news) (h2 : (b, o2) ∈ news) (ho : o1.cls ≠ o2.cls) : a ≠ b := fun e => by
  have q1 := (N _ h1).1
  have q2 := (N _ h2).1
  dsimp only at q1 q2
  rw [e, q2] at q1
  exact ho (congrArg Obj.cls (Option.some.inj q1)).symm
theorem news_swap {h₀ h : Heap} {L : Addr} {a b : Addr × Obj} {r : Ledger} (N : News h₀ L h (a :: b :: r)) : News h₀ L h (b :: a :: r) := fun q hq => N q (by
  rcases List.mem_cons.mp hq with e | hq
  · rw [e]; exact List.mem_cons_of_mem _ List.mem_cons_self
  · rcases List.mem_cons.mp hq with e | hq
    · rw [e]; exact List.mem_cons_self
    · exact List.mem_cons_of_mem _ (List.mem_cons_of_mem _ hq))
theorem news_swap2 {h₀ h : Heap} {L : Addr} {c a b : Addr × Obj} {r : Ledger} (N : News h₀ L h (c :: a :: b :: r)) : News h₀ L h (c :: b :: a :: r) := fun q hq => N q (by
  simp only [List.mem_cons] at hq ⊢
  rcases hq with h | h | h | h
  · exact .inl h
  · exact .inr (.inr (.inl h))
  · exact .inr (.inl h)
  · exact .inr (.inr (.inr h)))
theorem news_rot3 {h₀ h : Heap} {L : Addr} {a b c : Addr × Obj} {r : Ledger} (N : News h₀ L h (a :: b :: c :: r)) : News h₀ L h (c :: a :: b :: r) := news_sub N fun q hq => by simp only [List.mem_cons] at hq ⊢; grind
theorem news_op {h₀ h : Heap} {L : Addr} {f d l : Addr × Obj} {tl news : Ledger} (N : News h₀ L h (d :: l :: f :: (tl ++ news))) : News h₀ L h (l :: f :: ((d :: tl) ++ news)) := news_sub N fun q hq => by simp only [List.mem_cons, List.cons_append] at hq ⊢; grind
theorem news_ext2 {h₀ h : Heap} {L : Addr} {x d2 d1 l : Addr × Obj} {r : Ledger} (N : News h₀ L h (x :: d2 :: d1 :: l :: r)) : News h₀ L h (l :: x :: d2 :: d1 :: r) := news_sub N fun q hq => by simp only [List.mem_cons] at hq ⊢; grind
theorem news_ext3 {h₀ h : Heap} {L : Addr} {x d3 d2 d1 l : Addr × Obj} {r : Ledger} (N : News h₀ L h (x :: d3 :: d2 :: d1 :: l :: r)) : News h₀ L h (l :: x :: d3 :: d2 :: d1 :: r) := news_sub N fun q hq => by simp only [List.mem_cons] at hq ⊢; grind
theorem news_end2 {h₀ h : Heap} {L : Addr} {x d2 d1 l f : Addr × Obj} {tl news : Ledger} (N : News h₀ L h (l :: x :: d2 :: d1 :: f :: (tl ++ news))) : News h₀ L h (l :: f :: ((d2 :: d1 :: tl) ++ news)) := news_sub N fun q hq => by simp only [List.mem_cons, List.cons_append] at hq ⊢; grind
theorem news_end3 {h₀ h : Heap} {L : Addr} {x d3 d2 d1 l f : Addr × Obj} {tl news : Ledger} (N : News h₀ L h (l :: x :: d3 :: d2 :: d1 :: f :: (tl ++ news))) : News h₀ L h (l :: f :: ((d3 :: d2 :: d1 :: tl) ++ news)) := news_sub N fun q hq => by simp only [List.mem_cons, List.cons_append] at hq ⊢; grind
theorem news_drop2 {h₀ h : Heap} {L : Addr} {a b : Addr × Obj} {r : Ledger} (N : News h₀ L h (a :: b :: r)) : News h₀ L h (a :: r) := fun q hq => N q (by
  rcases List.mem_cons.mp hq with e | hq
  · rw [e]; exact List.mem_cons_self
  · exact List.mem_cons_of_mem _ (List.mem_cons_of_mem _ hq))
theorem tup_ne_list : (Value.type "tuple") ≠ Value.type "list" := by decide
def Stop (p : Prop) : Prop := p
theorem stop_here {p : Prop} (h : Stop p) : p := h

section
variable {A : Around} {s : Shared}
theorem eqAt_bytes (b : Array UInt8) (t u : Tok) : EqAt A s (.bytes b t) (.bytes b u) true := fun prog w E Q h => by
  unfold eqBool
  refine wpAny_holding ?_
  refine wpAny_ite_split (fun _ => wpAny_bind (wpAny_rule (wpAny_pure h))) (fun _ => ?_)
  refine wpAny_bind ?_
  refine PySem.W.eq_bytes (b := b) (c := b) ?_
  rw [beq_self_eq_true]
  exact wpAny_truthy_bool h

theorem eq_atom {v v' : Value} {d : Dat} {news : Ledger} (h : Atom d) (h1 : DatIn news v d) (h2 : DatIn news v' d) : EqAt A s v v' true := by
  cases h <;> cases h1 <;> cases h2
  · exact EqAt.same _
  · rename_i i t u
    have := (MeetsSeq.EqGives.int i i t u).at A s
    rwa [beq_self_eq_true] at this
  · rename_i x t u
    have := (SeqRoads2.EqGives.str x x t u).at A s
    rwa [beq_self_eq_true] at this
  · exact eqAt_bytes _ _ _
end

theorem all_true (n : Nat) : (List.range n).all (fun _ => true) = true := by simp

theorem eq_good {lo hi : Nat} {news : Ledger} {s : Shared} (H : ∀ p ∈ news, s.heap.get? p.1 = some p.2) : ∀ (n : Nat) {d : Dat}, Good lo hi n d → ∀ {A : Around} {v v' : Value}, A.units + n < cLine → DatIn news v d → DatIn news v' d → EqAt A s v v' true
  | 0, _, hg, _, _, _, _, h1, h2 => eq_atom hg h1 h2
  | n + 1, _, .inl hg, _, _, _, _, h1, h2 => eq_atom hg h1 h2
  | n + 1, _, .inr ⟨ds, e, hl, hi, _⟩, A, v, v', hu, h1, h2 => by
    subst e
    cases h1 with
    | @tuple a vs k _ m1 r1 =>
    cases h2 with
    | @tuple a' vs' k' _ m2 r2 =>
    by_cases ha : a = a'
    · subst ha; exact EqAt.same _
    · have l1 := r1.length
      have l2 := r2.length
      have q := EqAt.of_refs ha (RcAt.tuples (A := A) (s := s) (l := a) (b := a') (items := vs.toArray) (items2 := vs'.toArray) (e := fun _ => true) ⟨_, H _ m1, rfl, k, rfl⟩ ⟨_, H _ m2, rfl, k', rfl⟩ (by omega) fun j h1 h2 => ?_)
      · rw [all_true] at q
        simpa [l1, l2] using q
      · simp only [List.size_toArray] at h1 h2
        have hj : j < ds.length := by omega
        obtain ⟨u, e1, i1⟩ := r1.get hj
        obtain ⟨u', e2, i2⟩ := r2.get hj
        have q1 : vs.toArray[j] = u := by simpa [List.getElem?_eq_getElem h1] using e1
        have q2 : vs'.toArray[j] = u' := by simpa [List.getElem?_eq_getElem h2] using e2
        rw [q1, q2]
        exact eq_good H n (hi _ (List.getElem_mem hj)) (by show A.units + 1 + n < cLine; omega) i1 i2

theorem eq_goods {lo hi n : Nat} {news : Ledger} {s : Shared} {A : Around} (H : ∀ p ∈ news, s.heap.get? p.1 = some p.2) {vs vs' : List Value} {ds : List Dat} (hg : ∀ d ∈ ds, Good lo hi n d) (hu : A.units + n + 1 < cLine) (r1 : DatAll news vs ds) (r2 : DatAll news vs' ds) :
    ∀ j (h1 : j < vs.toArray.size) (h2 : j < vs'.toArray.size), EqAt A.in1 s vs.toArray[j] vs'.toArray[j] true := by
  intro j h1 h2
  simp only [List.size_toArray] at h1 h2
  have l1 := r1.length
  have hj : j < ds.length := by omega
  obtain ⟨u, e1, i1⟩ := r1.get hj
  obtain ⟨u', e2, i2⟩ := r2.get hj
  have q1 : vs.toArray[j] = u := by simpa [List.getElem?_eq_getElem h1] using e1
  have q2 : vs'.toArray[j] = u' := by simpa [List.getElem?_eq_getElem h2] using e2
  rw [q1, q2]
  exact eq_good H n (hg _ (List.getElem_mem hj)) (by show A.units + 1 + n < cLine; omega) i1 i2

section
variable {prog : Program} {w : World} {A : Around} {s : Shared} {h₀ : Heap} {L : Addr} {m : Str → Option Value} {news : Ledger} {Q E : Value → Shared → Prop}

noncomputable abbrev lstO (vs : List Value) (n : Nat) : Obj := { cls := .type "list", data := .seq vs.toArray n }

theorem m_eq_lists {lo hi n : Nat} {a b : Addr} {vs vs' : List Value} {k k' : Nat} {ds : List Dat} (N : News h₀ L s.heap news) (ha : (a, lstO vs k) ∈ news) (hb : (b, lstO vs' k') ∈ news) (hg : ∀ d ∈ ds, Good lo hi n d) (hu : A.units + n + 1 < cLine)
    (r1 : DatAll news vs ds) (r2 : DatAll news vs' ds) (h : Q (.bool true) s) : wpAny (model prog w) A (compareOp .Eq (.ref a) (.ref b)) Q E s := by
  have l1 := r1.length
  have l2 := r2.length
  refine eq_listAt (items := vs.toArray) (items2 := vs'.toArray) (e := fun _ => true) ⟨_, (N _ ha).1, rfl, k, rfl⟩ ⟨_, (N _ hb).1, rfl, k', rfl⟩ (by simp [l1, l2]) (by omega) (eq_goods (fun p hp => (N p hp).1) hg hu r1 r2) ?_
  rw [all_true]; exact h
theorem m_ne_lists {lo hi n : Nat} {a b : Addr} {vs vs' : List Value} {k k' : Nat} {ds : List Dat} (N : News h₀ L s.heap news) (ha : (a, lstO vs k) ∈ news) (hb : (b, lstO vs' k') ∈ news) (hg : ∀ d ∈ ds, Good lo hi n d) (hu : A.units + n + 1 < cLine)
    (r1 : DatAll news vs ds) (r2 : DatAll news vs' ds) (h : Q (.bool false) s) : wpAny (model prog w) A (compareOp .NotEq (.ref a) (.ref b)) Q E s := by
  have l1 := r1.length
  have l2 := r2.length
  refine RcNeAt.lists (items := vs.toArray) (items2 := vs'.toArray) (e := fun _ => true) ⟨_, (N _ ha).1, rfl, k, rfl⟩ ⟨_, (N _ hb).1, rfl, k', rfl⟩ (by simp [l1, l2]) (by omega) (eq_goods (fun p hp => (N p hp).1) hg hu r1 r2) prog w E Q ?_
  rw [all_true]; exact h
theorem m_ne_nil {a b : Addr} {vs : List Value} {x : Value} {k k' : Nat} (N : News h₀ L s.heap news) (ha : (a, lstO (vs ++ [x]) k) ∈ news) (hb : (b, lstO [] k') ∈ news) (hu : A.units + 1 < cLine)
    (h : Q (.bool true) s) : wpAny (model prog w) A (compareOp .NotEq (.ref a) (.ref b)) Q E s :=
  RcNeAt.lists_lengths (items := (vs ++ [x]).toArray) (items2 := [].toArray) ⟨_, (N _ ha).1, rfl, k, rfl⟩ ⟨_, (N _ hb).1, rfl, k', rfl⟩ (by simp) (by omega) prog w E Q h
theorem m_ne_goods {lo hi n : Nat} {v v' : Value} {d : Dat} (N : News h₀ L s.heap news) (hg : Good lo hi n d) (ht : isTup d = true) (hu : A.units + n + 1 < cLine) (r1 : DatIn news v d) (r2 : DatIn news v' d) (h : Q (.bool false) s) : wpAny (model prog w) A (compareOp .NotEq v v') Q E s := by
  cases n with
  | zero => cases hg <;> cases ht
  | succ n =>
  rcases hg with hg | ⟨ds, rfl, h1, h2, h3⟩
  · cases hg <;> cases ht
  · cases r1 with
    | @tuple a vs k _ m1 r1 =>
    cases r2 with
    | @tuple a' vs' k' _ m2 r2 =>
    have l1 := r1.length
    have l2 := r2.length
    refine RcNeAt.tuples (items := vs.toArray) (items2 := vs'.toArray) (e := fun _ => true) ⟨_, (N _ m1).1, rfl, k, rfl⟩ ⟨_, (N _ m2).1, rfl, k', rfl⟩ (by omega) (eq_goods (fun p hp => (N p hp).1) h2 (by omega) r1 r2) prog w E Q ?_
    rw [all_true]
    simpa [l1, l2] using h
theorem m_eq_goods {lo hi n : Nat} {v v' : Value} {d : Dat} (N : News h₀ L s.heap news) (hg : Good lo hi n d) (ht : isTup d = true) (hu : A.units + n + 1 < cLine) (r1 : DatIn news v d) (r2 : DatIn news v' d) (h : Q (.bool true) s) : wpAny (model prog w) A (compareOp .Eq v v') Q E s := by
  cases n with
  | zero => cases hg <;> cases ht
  | succ n =>
  rcases hg with hg | ⟨ds, rfl, h1, h2, h3⟩
  · cases hg <;> cases ht
  · cases r1 with
    | @tuple a vs k _ m1 r1 =>
    cases r2 with
    | @tuple a' vs' k' _ m2 r2 =>
    have l1 := r1.length
    have l2 := r2.length
    refine eq_tupleAt (items := vs.toArray) (items2 := vs'.toArray) (e := fun _ => true) ⟨_, (N _ m1).1, rfl, k, rfl⟩ ⟨_, (N _ m2).1, rfl, k', rfl⟩ (by omega) (eq_goods (fun p hp => (N p hp).1) h2 (by omega) r1 r2) ?_
    rw [all_true]
    simpa [l1, l2] using h

theorem m_in_strs {a : Addr} {x : Str} {u : Tok} {l : List (Str × Tok)} {r : Bool} (ht : IsTup s.heap a (l.map fun z => Value.str z.1 z.2).toArray) (hr : (l.any fun z => z.1.cps.toList == x.cps.toList) = r) (h : Q (.bool r) s) :
    wpAny (model prog w) A (compareOp .In (.str x u) (.ref a)) Q E s := by
  refine in_tupleAt (items := (l.map fun z => Value.str z.1 z.2).toArray) (fun y => match y with | .str z _ => z.cps.toList == x.cps.toList | _ => false) ht (fun y hy => ?_) ?_
  · simp only [List.mem_toArray, List.mem_map] at hy
    obtain ⟨z, _, rfl⟩ := hy
    exact (SeqRoads2.EqGives.str z.1 x z.2 u).at _ _
  · have e : (l.map fun z => Value.str z.1 z.2).toArray.any (fun y => match y with | .str z _ => z.cps.toList == x.cps.toList | _ => false) = r := by
      rw [← hr]; simp [List.any_map, Function.comp_def]
    rw [e]; exact h

/-! lists that change: the list's entry stands first -/
theorem m_append {a : Addr} {vs : List Value} {x : Value} {k : Nat} {rest : Ledger} (F : Fr h₀ L s.heap m) (N : News h₀ L s.heap ((a, lstO vs k) :: rest)) (off : ∀ p ∈ rest, p.1 ≠ a) (hz : vs.length ≤ 100000)
    (h : ∀ h', Fr h₀ L h' m → News h₀ L h' ((a, lstO (vs ++ [x]) (k + 1)) :: rest) → Q .none { s with heap := h' }) : wpAny (model prog w) A (call (.builtin "list.append") [.ref a, x]) Q E s := by
  refine append_K (its := vs.toArray) (n := k) F N (.head off) (fun h' F' N' => h h' F' ?_) (by rw [List.size_toArray, sizeLine_eq]; omega)
  simpa using N'
theorem m_pop {a : Addr} {vs : List Value} {x : Value} {k : Nat} {rest : Ledger} (F : Fr h₀ L s.heap m) (N : News h₀ L s.heap ((a, lstO (vs ++ [x]) k) :: rest)) (off : ∀ p ∈ rest, p.1 ≠ a) (hz : vs.length ≤ 100000)
    (h : ∀ h', Fr h₀ L h' m → News h₀ L h' ((a, lstO vs (k + 1)) :: rest) → Q x { s with heap := h' }) : wpAny (model prog w) A (call (.builtin "list.pop") [.ref a]) Q E s :=
  kl_pop (its := (vs ++ [x]).toArray) (p := vs) (y := x) F N (by simpa using kpa_last x vs) (.head off) (by simp only [List.length_append, List.length_singleton, sizeLine_eq]; omega) h
theorem m_extend {a b : Addr} {vs us : List Value} {k k' : Nat} {rest : Ledger} (F : Fr h₀ L s.heap m) (N : News h₀ L s.heap ((a, lstO vs k) :: rest)) (off : ∀ p ∈ rest, p.1 ≠ a) (hb : (b, tupO us k') ∈ rest) (hz : vs.length + us.length ≤ 100000)
    (h : ∀ h' k2, Fr h₀ L h' m → News h₀ L h' ((a, lstO (vs ++ us) k2) :: rest) → Q .none { s with heap := h' }) : wpAny (model prog w) A (call (.builtin "list.extend") [.ref a, .ref b]) Q E s := by
  have hd : ¬ (!vs.toArray.isEmpty && Builtin.List.listTooLong (vs.toArray.size + us.toArray.size)) = true := extend_door (by simp only [List.size_toArray, sizeLine_eq]; omega)
  have hz1 : vs.toArray.toList.length ≤ sizeLine := by simp only [sizeLine_eq]; omega
  have hz2 : vs.toArray.size + us.toArray.size ≤ sizeLine + 1 := by simp only [List.size_toArray, sizeLine_eq]; omega
  cases us with
  | cons u us =>
    exact kup_extend (its := vs.toArray) (its2 := (u :: us).toArray) (n2 := k') (l := vs ++ u :: us) F N (List.mem_cons_of_mem _ hb) (by simp) (by simp) (.head off) hd hz1 hz2 fun h' F' N' => h h' _ F' N'
  | nil =>
    have z := N (a, lstO vs k) List.mem_cons_self
    refine call_meets PySem.F.slot_list_extend ⟨_, z.1, rfl⟩ PySem.F.entry_list_extend (PySem.F.args_list_extend_2 _ _) (PySem.AutoSeq1.list_extend_list_tuple_0 a vs.toArray k b [].toArray k' hd (by simpa using hz1) hz2) ⟨z.1, (N _ (List.mem_cons_of_mem _ hb)).1, h _ k (F.change (Heap.SameBut.update ..) z.2.1 z.2.2) ?_⟩
    have t := kl_turn0 (pre := []) (fun x => x ++ #[]) N (fun _ h => nomatch h) off (by simp) rfl
    simpa using t
theorem m_truthy0 {a : Addr} {k : Nat} {Q : Bool → Shared → Prop} (N : News h₀ L s.heap news) (ha : (a, lstO [] k) ∈ news) (h : Q false { s with toks := s.toks + 1 + 1 }) : wpAny (model prog w) A (truthy (.ref a)) Q E s :=
  wpAny_truthy_list (items := [].toArray) ⟨_, (N _ ha).1, rfl, k, rfl⟩ (by decide) h
theorem m_truthy1 {a : Addr} {k : Nat} {vs : List Value} {x : Value} {Q : Bool → Shared → Prop} (N : News h₀ L s.heap news) (ha : (a, lstO (vs ++ [x]) k) ∈ news) (hz : vs.length ≤ 100000) (h : Q true { s with toks := s.toks + 1 + 1 }) : wpAny (model prog w) A (truthy (.ref a)) Q E s :=
  wpAny_truthy_list (items := (vs ++ [x]).toArray) ⟨_, (N _ ha).1, rfl, k, rfl⟩ (by simp only [List.size_toArray, List.length_append, List.length_singleton]; omega) (by rw [show (!(vs ++ [x]).toArray.isEmpty) = true from by cases vs <;> simp]; exact h)
theorem m_extendL {a b : Addr} {vs us : List Value} {k k' : Nat} {rest : Ledger} (F : Fr h₀ L s.heap m) (N : News h₀ L s.heap ((a, lstO vs k) :: rest)) (off : ∀ p ∈ rest, p.1 ≠ a) (hb : (b, lstO us k') ∈ rest) (hne : us ≠ []) (hz : vs.length + us.length ≤ 100000)
    (h : ∀ h', Fr h₀ L h' m → News h₀ L h' ((a, lstO (vs ++ us) (k + 1)) :: rest) → Q .none { s with heap := h' }) : wpAny (model prog w) A (call (.builtin "list.extend") [.ref a, .ref b]) Q E s := by
  have hd : ¬ (!vs.toArray.isEmpty && Builtin.List.listTooLong (vs.toArray.size + us.toArray.size)) = true := extend_door (by simp only [List.size_toArray, sizeLine_eq]; omega)
  have hz1 : vs.toArray.size ≤ sizeLine := by simp only [List.size_toArray, sizeLine_eq]; omega
  have hz2 : vs.toArray.size + us.toArray.size ≤ sizeLine + 1 := by simp only [List.size_toArray, sizeLine_eq]; omega
  have z := N (a, lstO vs k) List.mem_cons_self
  refine call_meets PySem.F.slot_list_extend ⟨_, z.1, rfl⟩ PySem.F.entry_list_extend (PySem.F.args_list_extend_2 _ _) (PySem.AutoSeq1.list_extend_list_list_0 a vs.toArray k b us.toArray k' hd hz1 hz2) ⟨z.1, (N _ (List.mem_cons_of_mem _ hb)).1, h _ (F.change (Heap.SameBut.update ..) z.2.1 z.2.2) ?_⟩
  have t := kl_turn (pre := []) (fun x => x ++ us.toArray) N (fun _ h => nomatch h) off (its' := (vs ++ us).toArray) (by simp) (by simpa using hne)
  simpa using t
end
end
section
open PySem.SeqAt
section
variable {prog : Program} {w : World} {A : Around} {s : Shared} {h₀ : Heap} {L : Addr} {m : Str → Option Value} {news : Ledger} {Q E : Value → Shared → Prop}

theorem m_pick {a : Addr} {vs : List Value} {n : Nat} {value slice : Expr} {r : Int} {u : Tok}
    (N : News h₀ L s.heap news) (hm : (a, tupO vs n) ∈ news) (h0 : 0 ≤ r) (h1 : r < vs.length) (hz : vs.length ≤ 100) (h : ∀ v ∈ vs, Q v s)
    (hs : subscripted slice false (.ref a) (.int r u) = operate [.ref a, .int r u] (getItem (.ref a) (.int r u))) :
    wpAny (model prog w) A (subscriptTail value slice (.ref a) (.int r u)) Q E s := by
  have hj : r.toNat < vs.length := by omega
  exact m_item (j := r.toNat) (x := vs[r.toNat]) N hm (by omega) (by omega) (by unfold seqIndex?; simp <;> omega) (List.getElem?_eq_getElem hj) (h _ (List.getElem_mem hj)) hs

theorem getItem_tuple_whole {t sl : Addr} {items : Array Value} {a b c : Value} {lo hi st : Option Int} {x y : Int} {k : Nat} (ht : IsTup s.heap t items) (hs : s.heap.IsSliceOf sl a b c) (pa : IsPart a lo) (pb : IsPart b hi) (pc : IsPart c st)
    (h0 : (st.getD 1 == 0) = false) (e : Builtin.Slice.sliceAdjust lo hi (st.getD 1) items.size = (x, y)) (e2 : Builtin.Slice.slicePlaces x y (st.getD 1) = k)
    (hno : (x == 0 && st.getD 1 == 1 && k == items.size) = true) 
    (h : Q (.ref t) s) : wpAny (model prog w) A (getItem (.ref t) (.ref sl)) Q E s := by
  obtain ⟨os, hos, hcs, hds⟩ := id hs
  have hTs : s.TypeIs (.ref sl) "slice" := ⟨os, hos, hcs⟩
  unfold getItem
  try with_reducible refine wpAny_holding ?_
  first | refine wpAny_bind (wpAny_pure ?_) | skip
  refine wpAny_bind (wpAny_sequenceKey ht.typeIs (by decide) ?_)
  refine wpAny_bind (wpAny_callSpecial?_slot (name := Str.ofString "__getitem__") ht.typeIs slot_tuple_getitem
    (wpAny_call_entry slot_tuple_getitem ht.typeIs entry_tuple_getitem ?_ (args_tuple_getitem _ _)))
  show wpAny _ _ (Builtin.Tuple.tupleItemsOf (.ref t) >>= _) _ _ s
  refine wpAny_bind (tupleItemsOf_ ht ?_)
  refine wpAny_bind (wpAny_typeOf hTs ?_)
  rw [if_pos (by decide)]
  refine wpAny_bind (sliceApplied_of hs pa pb pc h0 e e2 ?_)
  show wpAny _ _ (if (x == 0 && st.getD 1 == 1 && k == items.size) = true then _ else _) _ _ s
  rw [if_pos hno]
  have hT : s.TypeIs (.ref t) "tuple" := ht.typeIs
  refine wpAny_bind ?_
  unfold Builtin.Tuple.tupleIsExact
  refine wpAny_bind (wpAny_typeOf hT (wpAny_pure ?_))
  rw [if_pos (by decide)]
  first
    | exact wpAny_bind (wpAny_rule (wpAny_pure ⟨_, rfl, wpAny_pure h⟩))
    | exact wpAny_bind (wpAny_rule (wpAny_pure (wpAny_pure ⟨_, rfl, wpAny_pure h⟩)))
    | exact wpAny_bind (wpAny_rule (wpAny_bind (wpAny_pure ⟨_, rfl, wpAny_pure h⟩)))
    | trace_state

/-- ('G',)[:r] -/
theorem m_gcut {value slice : Expr} {t : Addr} {x : Value} {n : Nat} {r : Int} {u : Tok} {ops : List Value}
    (F : Fr h₀ L s.heap m) (N : News h₀ L s.heap news) (hm : (t, tupO [x] n) ∈ news) (h0 : 0 ≤ r) (h1 : r < 100)
    (h : ∀ D h' tl gs k, Fr h₀ L h' m → News h₀ L h' (tl ++ news) → (∀ q ∈ tl, q.2.cls = .type "tuple") → (D, tupO gs k) ∈ tl ++ [(t, tupO [x] n)] → (gs = [] ∨ gs = [x]) → Q (.ref D) { s with heap := h' })
    (hs : subscripted slice false (.ref t) (.ref s.heap.objs.size) = operate ops (getItem (.ref t) (.ref s.heap.objs.size)))
    (hg : ∀ r, letTemporaryGo value (.ref t) r = pure ()) :
    wpAny (model prog w) A (subscriptTail value slice (.ref t) (.ref s.heap.objs.size)) Q E { s with heap := s.heap.push { cls := .type "slice", data := .fields #[.none, .int r u, .none] } } := by
  by_cases hr : r = 0
  · subst hr
    refine m_slice (st := none) (zs := []) (x := 0) (y := 0) (k := 0) F N hm .none (.int _ _) .none rfl ?_ ?_ ?_ ?_ (by simp) (fun D h' F' N' _ => h D h' [(D, tupO [] 0)] [] 0 F' N' (by intro q hq; rw [List.mem_singleton.mp hq]) List.mem_cons_self (.inl rfl)) hs hg
    · unfold Builtin.Slice.sliceAdjust; simp; decide
    · unfold Builtin.Slice.slicePlaces; simp
    · simp
    · simp
  · have ht : IsTup s.heap t [x].toArray := ⟨_, (N _ hm).1, rfl, n, rfl⟩
    have ht' : IsTup (s.heap.push { cls := .type "slice", data := .fields #[.none, .int r u, .none] }) t [x].toArray := ht.keeps fun _ _ e => Heap.get?_push_of_some _ e
    refine subscriptTail_ops (s := { s with heap := s.heap.push { cls := .type "slice", data := .fields #[.none, .int r u, .none] } }) ht'.typeIs slot_tuple_getitem.lookup
      (getItem_tuple_whole (st := none) (x := 0) (y := 1) (k := 1) ht' (Heap.IsSliceOf.new ..) .none (.int r u) .none rfl ?_ ?_ ?_ ?_) hs hg
    · unfold Builtin.Slice.sliceAdjust; simp; omega
    · unfold Builtin.Slice.slicePlaces; simp
    · simp
    · exact h _ _ [] [x] n (F.push _) (N.grown fun _ _ e => Heap.get?_push_of_some _ e) (fun _ h => nomatch h) List.mem_cons_self (.inr rfl)

theorem m_lenL {a : Addr} {vs : List Value} {n : Nat} (N : News h₀ L s.heap news) (hm : (a, lstO vs n) ∈ news) (hz : vs.length ≤ 100000)
    (h : Q (.int vs.length (s.toks + 1)) { s with toks := s.toks + 1 + 1 }) : wpAny (model prog w) A (call (.builtin "len") [.ref a]) Q E s := by
  have hl : s.heap.IsList a vs.toArray := ⟨_, (N _ hm).1, rfl, n, rfl⟩
  refine PyProof.Rows.len_list hl ?_ ?_
  · simp only [List.size_toArray]; omega
  · simpa using h
theorem m_setI {a : Addr} {vs : List Value} {k : Nat} {i : Int} {u : Tok} {x : Value} {rest : Ledger} {Q : Unit → Shared → Prop} (F : Fr h₀ L s.heap m) (N : News h₀ L s.heap ((a, lstO vs k) :: rest)) (off : ∀ p ∈ rest, p.1 ≠ a) (h0 : 0 ≤ i) (h1 : i < vs.length) (hz : vs.length ≤ 100000)
    (h : ∀ h', Fr h₀ L h' m → News h₀ L h' ((a, lstO (vs.set i.toNat x) k) :: rest) → Q () { s with heap := h' }) : wpAny (model prog w) A (setItem (.ref a) (.int i u) x) Q E s := by
  have z := N (a, lstO vs k) List.mem_cons_self
  refine ki_setAt (items := vs.toArray) (n := k) z.1 h0 (by omega) (by rw [List.size_toArray]; omega) (h _ (F.change (Heap.SameBut.update ..) z.2.1 z.2.2) ?_)
  have t := ki_turn (pre := []) (n' := k) (fun y => y.setIfInBounds i.toNat x) (its' := (vs.set i.toNat x).toArray) N (fun _ h => nomatch h) off (by simp) (by simp)
  simpa using t
theorem m_note {a : Addr} {ns us : List Value} {k : Nat} {u : Tok} {x : Value} {rest : Ledger} {Q : Unit → Shared → Prop} (F : Fr h₀ L s.heap m) (N : News h₀ L s.heap ((a, lstO (ns ++ [.none] ++ us) k) :: rest)) (off : ∀ p ∈ rest, p.1 ≠ a) (hz : ns.length + us.length ≤ 90000)
    (h : ∀ h', Fr h₀ L h' m → News h₀ L h' ((a, lstO (ns ++ x :: us) k) :: rest) → Q () { s with heap := h' }) : wpAny (model prog w) A (setItem (.ref a) (.int ns.length u) x) Q E s := by
  refine m_setI F N off (by omega) (by simp only [List.length_append, List.length_singleton]; omega) (by simp only [List.length_append, List.length_singleton]; omega) fun h' F' N' => h h' F' ?_
  have e : (ns ++ [Value.none] ++ us).set ((ns.length : Int)).toNat x = ns ++ x :: us := by simp
  rw [e] at N'
  exact N'
theorem m_noted {a : Addr} {ns us : List Value} {k : Nat} {u : Tok} {x : Value} {value slice : Expr} (N : News h₀ L s.heap news) (hm : (a, lstO (ns ++ x :: us) k) ∈ news) (hz : ns.length + us.length ≤ 90000) (h : Q x s)
    (hb : subscripted slice false (.ref a) (.int ns.length u) = operate [.ref a, .int ns.length u] (getItem (.ref a) (.int ns.length u))) :
    wpAny (model prog w) A (subscriptTail value slice (.ref a) (.int ns.length u)) Q E s := by
  have hl : s.heap.IsList a (ns ++ x :: us).toArray := ⟨_, (N _ hm).1, rfl, k, rfl⟩
  exact tail_any hl.typeIs slot_list_getitem.lookup (wpAny_getItem_list hl (by omega) (by omega) (by simp) h) hb
theorem m_getI {a : Addr} {vs : List Value} {k : Nat} {i : Int} {u : Tok} {x : Value} {value slice : Expr} (N : News h₀ L s.heap news) (hm : (a, lstO vs k) ∈ news) (h0 : 0 ≤ i) (hx : vs[i.toNat]? = some x) (hz : vs.length ≤ 100000) (h : Q x s)
    (hb : subscripted slice false (.ref a) (.int i u) = operate [.ref a, .int i u] (getItem (.ref a) (.int i u))) :
    wpAny (model prog w) A (subscriptTail value slice (.ref a) (.int i u)) Q E s := by
  have hl : s.heap.IsList a vs.toArray := ⟨_, (N _ hm).1, rfl, k, rfl⟩
  have hi : i.toNat < vs.length := (List.getElem?_eq_some_iff.mp hx).1
  exact tail_any hl.typeIs slot_list_getitem.lookup (wpAny_getItem_list hl h0 (by omega) (by simpa using hx) h) hb
end

mutual
theorem DatIn.only {news news' : Ledger} (hs : ∀ p ∈ news, (∃ xs n, p.2.data = .seq xs n) → p ∈ news') : ∀ {v : Value} {d : Dat}, DatIn news v d → DatIn news' v d
  | _, _, .none => .none
  | _, _, .bool b => .bool b
  | _, _, .int i t => .int i t
  | _, _, .str x t => .str x t
  | _, _, .bytes b t => .bytes b t
  | _, _, .tuple h r => .tuple (hs _ h ⟨_, _, rfl⟩) (DatAll.only hs r)
  | _, _, .list h r => .list (hs _ h ⟨_, _, rfl⟩) (DatAll.only hs r)
theorem DatAll.only {news news' : Ledger} (hs : ∀ p ∈ news, (∃ xs n, p.2.data = .seq xs n) → p ∈ news') : ∀ {vs : List Value} {ds : List Dat}, DatAll news vs ds → DatAll news' vs ds
  | _, _, .nil => .nil
  | _, _, .cons h r => .cons (DatIn.only hs h) (DatAll.only hs r)
end
mutual
theorem DatIn.onlyC {news news' : Ledger} (hs : ∀ p ∈ news, (p.2.cls = .type "tuple" ∨ p.2.cls = .type "list") → p ∈ news') : ∀ {v : Value} {d : Dat}, DatIn news v d → DatIn news' v d
  | _, _, .none => .none
  | _, _, .bool b => .bool b
  | _, _, .int i t => .int i t
  | _, _, .str x t => .str x t
  | _, _, .bytes b t => .bytes b t
  | _, _, .tuple h r => .tuple (hs _ h (.inl rfl)) (DatAll.onlyC hs r)
  | _, _, .list h r => .list (hs _ h (.inr rfl)) (DatAll.onlyC hs r)
theorem DatAll.onlyC {news news' : Ledger} (hs : ∀ p ∈ news, (p.2.cls = .type "tuple" ∨ p.2.cls = .type "list") → p ∈ news') : ∀ {vs : List Value} {ds : List Dat}, DatAll news vs ds → DatAll news' vs ds
  | _, _, .nil => .nil
  | _, _, .cons h r => .cons (DatIn.onlyC hs h) (DatAll.onlyC hs r)
end
theorem only_it {tl tp r : Ledger} {a : Addr} {o : Obj} (h : o.cls = .type "range_iterator") :
    ∀ p ∈ tl ++ (tp ++ ((a, o) :: r)), (p.2.cls = .type "tuple" ∨ p.2.cls = .type "list") → p ∈ (tl ++ tp) ++ r := by
  rintro p hp e
  simp only [List.mem_append, List.mem_cons] at hp ⊢
  rcases hp with h1 | h1 | rfl | h1
  · exact .inl (.inl h1)
  · exact .inl (.inr h1)
  · dsimp only at e; rw [h] at e; exact absurd e (by decide)
  · exact .inr h1
theorem news_it {h₀ h : Heap} {L : Addr} {x c t n : Addr × Obj} {tl r : Ledger} (N : News h₀ L h (x :: c :: t :: n :: (tl ++ r))) : News h₀ L h (c :: t :: n :: (tl ++ (x :: r))) := news_sub N fun q hq => by simp only [List.mem_cons, List.mem_append] at hq ⊢; grind
theorem news_ti {h₀ h : Heap} {L : Addr} {x c t n : Addr × Obj} {tl r : Ledger} (N : News h₀ L h (c :: t :: n :: (tl ++ (x :: r)))) : News h₀ L h (x :: c :: t :: n :: (tl ++ r)) := news_sub N fun q hq => by simp only [List.mem_cons, List.mem_append] at hq ⊢; grind
theorem only_cells {tl tp r : Ledger} {a1 a2 a3 : Addr} {x1 x2 x3 : Obj} {v1 v2 v3 : Option Value} (h1 : x1.data = .cell v1) (h2 : x2.data = .cell v2) (h3 : x3.data = .cell v3) :
    ∀ p ∈ tl ++ (tp ++ ((a1, x1) :: (a2, x2) :: (a3, x3) :: r)), (∃ xs n, p.2.data = .seq xs n) → p ∈ (tl ++ tp) ++ r := by
  rintro p hp ⟨xs, n, e⟩
  simp only [List.mem_append, List.mem_cons] at hp ⊢
  rcases hp with h | h | rfl | rfl | rfl | h
  · exact .inl (.inl h)
  · exact .inl (.inr h)
  · rw [h1] at e; cases e
  · rw [h2] at e; cases e
  · rw [h3] at e; cases e
  · exact .inr h

theorem news_g {h₀ h : Heap} {L : Addr} {x y p c t n : Addr × Obj} {tg r : Ledger} (N : News h₀ L h (x :: (tg ++ (y :: p :: c :: t :: n :: r)))) : News h₀ L h (c :: t :: n :: ((x :: y :: p :: tg) ++ r)) := news_sub N fun q hq => by simp only [List.mem_cons, List.mem_append] at hq ⊢; grind
theorem news_g1 {h₀ h : Heap} {L : Addr} {x y c t n : Addr × Obj} {tg r : Ledger} (N : News h₀ L h (x :: (tg ++ (y :: c :: t :: n :: r)))) : News h₀ L h (c :: t :: n :: ((x :: y :: tg) ++ r)) := news_sub N fun q hq => by simp only [List.mem_cons, List.mem_append] at hq ⊢; grind
theorem gs_dat {news : Ledger} {gs : List Value} {x : Str} {t : Tok} (h : gs = [] ∨ gs = [.str x t]) : ∃ gd : List Str, gd.length ≤ 1 ∧ DatAll news gs (gd.map Dat.str) := by
  rcases h with rfl | rfl
  · exact ⟨[], by simp, .nil⟩
  · exact ⟨[x], by simp, .cons (.str _ _) .nil⟩
theorem who_of {r : Int} (h0 : 0 ≤ r) (h1 : r < 3) : Who (Txt.item (Str.ofString "ABC") r) := by
  have : r = 0 ∨ r = 1 ∨ r = 2 := by omega
  rcases this with rfl | rfl | rfl
  · rw [show Txt.item (Str.ofString "ABC") 0 = Str.ofString "A" from by decide +kernel]; exact .A
  · rw [show Txt.item (Str.ofString "ABC") 1 = Str.ofString "B" from by decide +kernel]; exact .B
  · rw [show Txt.item (Str.ofString "ABC") 2 = Str.ofString "C" from by decide +kernel]; exact .C

theorem news_asc {h₀ h : Heap} {L : Addr} {x y z : Addr × Obj} {a b r : Ledger} (N : News h₀ L h (x :: y :: z :: (a ++ (b ++ r)))) : News h₀ L h (x :: y :: z :: ((a ++ b) ++ r)) := by rw [List.append_assoc]; exact N
theorem news_end {h₀ h : Heap} {L : Addr} {x y z c1 c2 c3 : Addr × Obj} {tl r : Ledger} (N : News h₀ L h (x :: y :: z :: (tl ++ (c1 :: c2 :: c3 :: r)))) : News h₀ L h (x :: y :: z :: (tl ++ r)) := news_sub N fun q hq => by simp only [List.mem_cons, List.mem_append] at hq ⊢; grind
theorem tp_nil : ∀ q ∈ ([] : Ledger), q.2.cls = .type "tuple" := fun _ h => nomatch h
theorem tp_cons {a : Addr} {o : Obj} {r : Ledger} (h : o.cls = .type "tuple") (t : ∀ q ∈ r, q.2.cls = .type "tuple") : ∀ q ∈ (a, o) :: r, q.2.cls = .type "tuple" := List.forall_mem_cons.mpr ⟨h, t⟩
theorem tp_app {a b : Ledger} (h : ∀ q ∈ a, q.2.cls = .type "tuple") (t : ∀ q ∈ b, q.2.cls = .type "tuple") : ∀ q ∈ a ++ b, q.2.cls = .type "tuple" := fun q hq => (List.mem_append.mp hq).elim (h q) (t q)
end
section
section
variable {nw : Ledger} {v : Value} {a b c d e : Dat} {ds : List Dat}
/-! what stands behind a datum, without a motive over the goal -/
theorem inStr {x : Str} (h : DatIn nw v (.str x)) : ∃ t, v = .str x t := by cases h; exact ⟨_, rfl⟩
theorem inInt {i : Int} (h : DatIn nw v (.int i)) : ∃ t, v = .int i t := by cases h; exact ⟨_, rfl⟩
theorem inTup (h : DatIn nw v (.tuple ds)) : ∃ x k vs, v = .ref x ∧ (x, tupO vs k) ∈ nw ∧ DatAll nw vs ds := by
  cases h with
  | tuple hm r => exact ⟨_, _, _, rfl, hm, r⟩
theorem allNil {vs : List Value} (h : DatAll nw vs []) : vs = [] := by cases h; rfl
theorem allCons {vs : List Value} (h : DatAll nw vs (a :: ds)) : ∃ v r, vs = v :: r ∧ DatIn nw v a ∧ DatAll nw r ds := by
  cases h with
  | cons h r => exact ⟨_, _, rfl, h, r⟩
theorem inTup2 (h : DatIn nw v (.tuple [a, b])) : ∃ x k v1 v2, v = .ref x ∧ (x, tupO [v1, v2] k) ∈ nw ∧ DatIn nw v1 a ∧ DatIn nw v2 b := by
  obtain ⟨x, k, vs, e, hm, r⟩ := inTup h
  obtain ⟨v1, r1, rfl, h1, r⟩ := allCons r
  obtain ⟨v2, r2, rfl, h2, r⟩ := allCons r
  cases allNil r
  exact ⟨x, k, v1, v2, e, hm, h1, h2⟩
theorem inTup3 (h : DatIn nw v (.tuple [a, b, c])) : ∃ x k v1 v2 v3, v = .ref x ∧ (x, tupO [v1, v2, v3] k) ∈ nw ∧ DatIn nw v1 a ∧ DatIn nw v2 b ∧ DatIn nw v3 c := by
  obtain ⟨x, k, vs, e, hm, r⟩ := inTup h
  obtain ⟨v1, r1, rfl, h1, r⟩ := allCons r
  obtain ⟨v2, r2, rfl, h2, r⟩ := allCons r
  obtain ⟨v3, r3, rfl, h3, r⟩ := allCons r
  cases allNil r
  exact ⟨x, k, v1, v2, v3, e, hm, h1, h2, h3⟩
theorem inTup4 (h : DatIn nw v (.tuple [a, b, c, d])) : ∃ x k v1 v2 v3 v4, v = .ref x ∧ (x, tupO [v1, v2, v3, v4] k) ∈ nw ∧ DatIn nw v1 a ∧ DatIn nw v2 b ∧ DatIn nw v3 c ∧ DatIn nw v4 d := by
  obtain ⟨x, k, vs, e, hm, r⟩ := inTup h
  obtain ⟨v1, r1, rfl, h1, r⟩ := allCons r
  obtain ⟨v2, r2, rfl, h2, r⟩ := allCons r
  obtain ⟨v3, r3, rfl, h3, r⟩ := allCons r
  obtain ⟨v4, r4, rfl, h4, r⟩ := allCons r
  cases allNil r
  exact ⟨x, k, v1, v2, v3, v4, e, hm, h1, h2, h3, h4⟩
theorem inTup5 (h : DatIn nw v (.tuple [a, b, c, d, e])) : ∃ x k v1 v2 v3 v4 v5, v = .ref x ∧ (x, tupO [v1, v2, v3, v4, v5] k) ∈ nw ∧ DatIn nw v1 a ∧ DatIn nw v2 b ∧ DatIn nw v3 c ∧ DatIn nw v4 d ∧ DatIn nw v5 e := by
  obtain ⟨x, k, vs, e, hm, r⟩ := inTup h
  obtain ⟨v1, r1, rfl, h1, r⟩ := allCons r
  obtain ⟨v2, r2, rfl, h2, r⟩ := allCons r
  obtain ⟨v3, r3, rfl, h3, r⟩ := allCons r
  obtain ⟨v4, r4, rfl, h4, r⟩ := allCons r
  obtain ⟨v5, r5, rfl, h5, r⟩ := allCons r
  cases allNil r
  exact ⟨x, k, v1, v2, v3, v4, v5, e, hm, h1, h2, h3, h4, h5⟩
/-- a word, then the rest -/
theorem inWord {x : Str} (h : DatIn nw v (.tuple (.str x :: ds))) : ∃ q k u vs, v = .ref q ∧ (q, tupO (.str x u :: vs) k) ∈ nw ∧ DatAll nw vs ds := by
  obtain ⟨q, k, vs, e, hm, r⟩ := inTup h
  obtain ⟨v1, r1, rfl, h1, r2⟩ := allCons r
  obtain ⟨t, rfl⟩ := inStr h1
  exact ⟨q, k, t, r1, e, hm, r2⟩
theorem inPairS {x : Str} (h : DatIn nw v (.tuple [.str x, b])) : ∃ q k t v2, v = .ref q ∧ (q, tupO [.str x t, v2] k) ∈ nw ∧ DatIn nw v2 b := by
  obtain ⟨q, k, v1, v2, e, hm, h1, h2⟩ := inTup2 h
  obtain ⟨t, rfl⟩ := inStr h1
  exact ⟨q, k, t, v2, e, hm, h2⟩
theorem inPairSS {x y : Str} (h : DatIn nw v (.tuple [.str x, .str y])) : ∃ q k t u, v = .ref q ∧ (q, tupO [.str x t, .str y u] k) ∈ nw := by
  obtain ⟨q, k, t, v2, e, hm, h2⟩ := inPairS h
  obtain ⟨u, rfl⟩ := inStr h2
  exact ⟨q, k, t, u, e, hm⟩
theorem inTriS {x : Str} (h : DatIn nw v (.tuple [.str x, b, c])) : ∃ q k t v2 v3, v = .ref q ∧ (q, tupO [.str x t, v2, v3] k) ∈ nw ∧ DatIn nw v2 b ∧ DatIn nw v3 c := by
  obtain ⟨q, k, v1, v2, v3, e, hm, h1, h2, h3⟩ := inTup3 h
  obtain ⟨t, rfl⟩ := inStr h1
  exact ⟨q, k, t, v2, v3, e, hm, h2, h3⟩
theorem inRefS {x y : Str} (h : DatIn nw v (.tuple [.str x, .str y, c, d, e])) : ∃ q k t u v3 v4 v5, v = .ref q ∧ (q, tupO [.str x t, .str y u, v3, v4, v5] k) ∈ nw ∧ DatIn nw v3 c ∧ DatIn nw v4 d ∧ DatIn nw v5 e := by
  obtain ⟨q, k, v1, v2, v3, v4, v5, e, hm, h1, h2, h3⟩ := inTup5 h
  obtain ⟨t, rfl⟩ := inStr h1
  obtain ⟨u, rfl⟩ := inStr h2
  exact ⟨q, k, t, u, v3, v4, v5, e, hm, h3⟩
/-- a number at scale 0 -/
theorem inNum {i : Int} (h : DatIn nw v (.tuple [.int i, .int 0])) : ∃ q k t u, v = .ref q ∧ (q, tupO [.int i t, .int 0 u] k) ∈ nw := by
  obtain ⟨q, k, v1, v2, e, hm, h1, h2⟩ := inTup2 h
  obtain ⟨t, rfl⟩ := inInt h1
  obtain ⟨u, rfl⟩ := inInt h2
  exact ⟨q, k, t, u, e, hm⟩
end
/-- two words that the context parts -/
theorem eq_str_ne {prog : Program} {w : World} {A : Around} {E : Value → Shared → Prop} {s : Shared} {x y : Str} {t u : Tok} {Q : Value → Shared → Prop} (hne : x ≠ y) (h : Q (.bool false) s) : wpAny (model prog w) A (compareOp .Eq (.str x t) (.str y u)) Q E s :=
  eq_str (by rw [beq_eq_false_iff_ne.mpr hne]; exact h)
/-! room for calls, without omega -/
theorem room1 {x k m L : Nat} (h : x + m < L) (e : Nat.ble (1 + k) m = true) : x + 1 + k < L :=
  Nat.lt_of_le_of_lt (by have := Nat.le_of_ble_eq_true e; omega) h
theorem room0 {x k m L : Nat} (h : x + m < L) (e : Nat.ble k m = true) : x + k < L :=
  Nat.lt_of_le_of_lt (Nat.add_le_add_left (Nat.le_of_ble_eq_true e) x) h
theorem roomS {x n c b L : Nat} (h : x + c * (n + 1) + b < L) (e : Nat.ble 1 c = true) : x + 1 + c * n + b < L := by
  have := Nat.le_of_ble_eq_true e
  rw [Nat.mul_succ] at h; omega
theorem roomK {x n c b j L : Nat} (h : x + c * (n + 1) + b < L) (e : Nat.ble j c = true) : x + j + c * n + b < L := by
  have := Nat.le_of_ble_eq_true e
  rw [Nat.mul_succ] at h; omega
theorem roomE {x j c n b m L : Nat} (h : x + m < L) (e : Nat.ble (j + c * n + b) m = true) : x + j + c * n + b < L := by
  have := Nat.le_of_ble_eq_true e
  omega
theorem roomD {x y b L : Nat} (h : x + y + b < L) : x + b < L := by omega
theorem roomS0 {x n c b L : Nat} (h : x + c * (n + 1) + b < L) : x + c * n + b < L := by
  rw [Nat.mul_succ] at h; omega
theorem roomC {x y k m L : Nat} (h : x + y + m < L) (e : Nat.ble (1 + k) m = true) : x + 1 + k < L := by
  have := Nat.le_of_ble_eq_true e; omega
theorem roomC0 {x y k m L : Nat} (h : x + y + m < L) (e : Nat.ble k m = true) : x + k < L := by
  have := Nat.le_of_ble_eq_true e; omega
theorem room {x m L : Nat} (h : x + m < L) : x < L := Nat.lt_of_le_of_lt (Nat.le_add_right _ _) h
/-- a goal that the walk must not touch -/
def Held (P : Prop) : Prop := P
/-- a stop that is to be passed -/
structure Passed : Prop where
/-- what holds for any count of tokens, left alone by the walk -/
def HeldAll (f : Nat → Prop) : Prop := ∀ tk, f tk
theorem HeldAll.at {f : Nat → Prop} (h : HeldAll f) (tk : Nat) : f tk := h tk
/-- an if whose body is come to by more than one way: the body once -/
theorem if_once {M : Model} {A : Around} {test : Expr} {body orelse : List Stmt} {pos : Pos} {env : Env} {Q : Flow → Shared → Prop} {E : Value → Shared → Prop} {s : Shared}
    (hb : ∀ tk, wpAny M A (execs body env) Q E { s with toks := tk })
    (h : (HeldAll fun tk => wpAny M A (execs body env) Q E { s with toks := tk }) → wpAny M A (exec (.If test body orelse pos) env) Q E s) : wpAny M A (exec (.If test body orelse pos) env) Q E s := h hb
end
local macro_rules | `(tactic| walk_at "my enter") => `(tactic| (refine' enter ?zk3 ?zk5 ?zk4 ?zk6 ?zk7 ?zk8 ?zk9 ?zkB ?_ ?zc2 ?zc3 ?zc4 ?zc5; (case zk3 => assumption); (case zk5 => assumption); (case zk4 => assumption); (case zk6 => k_is); (case zk7 => k_is); (case zk8 => (show _ < recursionLimit; simp only [recursionLimit] at *; omega)); (case zk9 => first | exact BindsTo.of_eq rfl | exact binds_K ((‹Frag.In _ _›).keeps (Led.keep ‹_›)) rfl (by k_is) rfl rfl rfl); (case zc5 => decide); (case zkB => exact locs rfl); (case zc2 => exact rfl); (case zc3 => exact rfl); (case zc4 => exact rfl); k_whole; intro g' L' h' F' N' X' T' l1; (try dsimp only); (try k_fold)))
local macro_rules | `(tactic| walk_at "my enterS") => `(tactic| (refine' enterS ?zk3 ?zk5 ?zk4 ?zk6 ?zk7 ?zk8 ?zk9 ?zkB ?_ ?zc2 ?zc3 ?zc4 ?zc5; (case zk3 => assumption); (case zk5 => assumption); (case zk4 => assumption); (case zk6 => k_is); (case zk7 => k_is); (case zk8 => (show _ < recursionLimit; simp only [recursionLimit] at *; omega)); (case zk9 => first | exact BindsTo.of_eq rfl | exact binds_K ((‹Frag.In _ _›).keeps (Led.keep ‹_›)) rfl (by k_is) rfl rfl rfl); (case zc5 => decide); (case zkB => exact locs rfl); (case zc2 => exact rfl); (case zc3 => exact rfl); (case zc4 => exact rfl); k_whole; intro g' L' h' F' N' X' T' l1 st9; (try dsimp only); (try k_fold)))
local macro_rules | `(tactic| walk_at "my enterC") => `(tactic| (refine' enterC ?zk3 ?zk5 ?zk4 ?zk6 ?zk7 ?zk8 ?zk9 ?zkB ?zkD ?_ ?zc2 ?zc3 ?zc4; (case zk3 => assumption); (case zk5 => assumption); (case zk4 => assumption); (case zk6 => k_is); (case zk7 => k_is); (case zk8 => (show _ < recursionLimit; simp only [recursionLimit] at *; omega)); (case zk9 => first | exact BindsTo.of_eq rfl | exact binds_K ((‹Frag.In _ _›).keeps (Led.keep ‹_›)) rfl (by k_is) rfl rfl rfl); (case zkB => exact rfl); (case zkD => decide +kernel); (case zc2 => exact rfl); (case zc3 => exact rfl); (case zc4 => exact rfl); k_whole; intro g' L' h' tk' cells' F' N' Y' X' T' l1; k_cells Y'; (try simp only [List.cons_append, List.nil_append] at N'); (try dsimp only); (try k_fold)))
local macro_rules | `(tactic| walk_at "my steps") => `(tactic| (repeat' (first | (k_unfold; (try dsimp only)) | (k_unmd; k_unfold; (try dsimp only)) | walk1 | (dsimp only; walk1) | (dsimp only; k_unfold; (try dsimp only)))))
local macro_rules | `(tactic| walk_at "my back") => `(tactic| refine Back.mk (by assumption) (by assumption) fun S => ?_)
local macro_rules | `(tactic| k_mem) => `(tactic| (first | with_reducible assumption | with_reducible exact List.mem_cons_self | (with_reducible refine' List.mem_cons_of_mem _ ?_; k_mem) | (with_reducible refine' List.mem_append_left _ ?_; k_mem) | (with_reducible refine' List.mem_append_right _ ?_; k_mem)))
local macro_rules | `(tactic| walk_at "getItem ref str") => `(tactic| ((with_reducible rename Who _ => hw9); (with_reducible rename Obj.IsDictOf _ _ _ => hd9); k_dflt (first
  | (refine' m_rot ?zN ?zp ?zlo hd9 hw9 ?_; (case zN => k_asm); (case zp => k_mem); (case zlo => assumption); k_whole)
  | (refine' m_tor ?zN ?zp ?zlo hd9 hw9 ?_; (case zN => k_asm); (case zp => k_mem); (case zlo => assumption); k_whole)); intro u9; clear hd9; (try dsimp only)))
local macro_rules | `(tactic| walk_at "binaryOp Add ref ref") => `(tactic| ((with_reducible show wpAny _ _ (binaryOp _ (Value.ref _) (Value.ref _)) _ _ _); k_dflt (first
  | (refine' m_add0 ?zF ?zN ?zt ?zb ?zz ?_; (case zF => k_asm); (case zN => k_asm); (case zt => k_mem); (case zb => k_mem); (case zz => (simp only [List.length_cons, List.length_nil]; omega)); k_whole)
  | (refine' m_add ?zF ?zN ?zt ?zb ?zz ?_; (case zF => k_asm); (case zN => k_asm); (case zt => k_mem); (case zb => k_mem); (case zz => (simp only [List.length_nil]; omega)); k_whole; intro D' h' F' N' l1))))
local macro_rules | `(tactic| walk_at "subscriptTail") => `(tactic| ((with_reducible show wpAny _ _ (subscriptTail _ (PySem.Expr.Slice none (some _) none _) (Value.ref _) (Value.ref _)) _ _ _); k_dflt (refine' m_slice ?zF ?zN ?zm ?za ?zb ?zc ?z0 ?ze ?ze2 ?zno ?zz ?zsz ?_ ?zs ?zg; (case zF => k_asm); (case zN => k_asm); (case zm => k_mem); (case za => exact IsPart.none); (case zb => exact IsPart.int _ _); (case zc => exact IsPart.none); (case z0 => rfl); (case ze => exact (but_last _ (List.cons_ne_nil _ _)).1); (case ze2 => exact (but_last _ (List.cons_ne_nil _ _)).2.1); (case zno => exact (but_last _ (List.cons_ne_nil _ _)).2.2.1); (case zz => exact (but_last _ (List.cons_ne_nil _ _)).2.2.2); (case zsz => (simp only [List.length_dropLast, List.length_cons, sizeLine_eq]; omega)); (case zs => with_unfolding_all rfl); (case zg => (intro _; with_unfolding_all rfl)); k_whole); intro D' h' F' N' l1; (try dsimp only)))
local macro_rules | `(tactic| walk_at "subscriptTail") => `(tactic| ((with_reducible show wpAny _ _ (subscriptTail _ (PySem.Expr.Slice none none (some _) _) (Value.ref _) (Value.ref _)) _ _ _); k_dflt (refine' m_slice ?zF ?zN ?zm ?za ?zb ?zc ?z0 ?ze ?ze2 ?zno ?zz ?zsz ?_ ?zs ?zg; (case zF => k_asm); (case zN => k_asm); (case zm => k_mem); (case za => exact IsPart.none); (case zb => exact IsPart.none); (case zc => exact IsPart.int _ _); (case z0 => rfl); (case ze => exact (rev_all _).1); (case ze2 => exact (rev_all _).2.1); (case zno => exact (rev_all _).2.2.1); (case zz => exact (rev_all _).2.2.2); (case zsz => (simp only [List.length_reverse, sizeLine_eq]; omega)); (case zs => with_unfolding_all rfl); (case zg => (intro _; with_unfolding_all rfl)); k_whole); intro D' h' F' N' l1; (try dsimp only)))
local macro_rules | `(tactic| walk_at "eval ListComp") => `(tactic| (k_here; (with_reducible rename Fr _ _ _ _ => lF9); (with_reducible refine' compG lF9 ?zc ?zd ?ze ?zf ?zg ?_ ?zh ?zi); (case zc => with_unfolding_all rfl); (case zd => decide); (case ze => with_unfolding_all rfl); (case zf => decide); (case zg => with_unfolding_all rfl); (case zh => (intro _; with_unfolding_all rfl)); (case zi => (intro _ _; with_unfolding_all rfl))))
local macro_rules | `(tactic| walk_at "callWith ref") => `(tactic| (k_here; k_dflt (refine' callWith_K ?zk1 ?zk2 ?_; (case zk1 => k_asm); (case zk2 => assumption); k_whole)))
local macro_rules | `(tactic| walk_at "subscriptTail") => `(tactic| ((with_reducible show wpAny _ _ (subscriptTail _ _ (Value.ref _) (Value.int 0 _)) _ _ _); k_dflt (refine' m_item0 ?zN ?zm ?_ ?zs; (case zN => k_asm); (case zm => k_mem); (case zs => with_unfolding_all rfl); k_whole)))
local macro_rules | `(tactic| k_all) => `(tactic| assumption)
local macro_rules | `(tactic| walk_at "eval Name") => `(tactic| (k_here; k_dflt (refine' ld ?zk1 ?zk2 ?_; (case zk1 => k_asm); (case zk2 => assumption); k_whole)))
local macro_rules | `(tactic| walk_at "eval Name") => `(tactic| (k_here; name_kind "cell"; k_dflt (refine' nameX_C ?zN ?zc ?zm ?zd ?_ ?za ?zb; (case za => rfl); (case zb => rfl); (case zN => k_asm); (case zc => rfl); (case zm => k_mem); (case zd => assumption); k_whole)))
local macro_rules | `(tactic| walk_at "eval Name") => `(tactic| (k_here; name_kind "free"; (with_reducible show wpAny _ _ (eval (Expr.Name _ _) (compEnvC _ _ _ _)) _ _ _); k_dflt (refine' kcf_cell ?zN ?zc ?zm ?zd ?_; (case zN => k_asm); (case zc => rfl); (case zm => k_mem); (case zd => assumption); k_whole)))
section
section
variable {w : World} {dp un : Nat} {fr : Option (List Env)} {gd : Option (List Code)} {s : Shared} {h₀ : Heap} {news : Ledger} {p : Program} {loose : List Str} {mean : ExcName → Option Value} {mg mb : Str → Option Value} {Q E : Value → Shared → Prop}

theorem c_isref {v : Value} {d : Dat} (X : (Mine.hd.heap_1 w.params).In h₀) (T : Top p loose mean mg mb h₀) (D : Led h₀ s.heap news) (hd : dp + 10 < recursionLimit) (hu : un + 100 < cLine) (hv : DatIn news v d) (hs : Sh5 d)
    (ret : ∀ h' tk', Step s.heap h' news news → Q (.bool (isRefD d)) { s with heap := h', toks := tk' }) :
    wpAny (model PySem.Challenge.rw_pb0239_01.row.prog w) (ar dp un fr gd) (call (.ref 27) [v]) Q E s := by
  cases hs with
  | atom h =>
    cases h
    case none =>
      cases hv
      walk_at "my enter"
      walk_at "my steps"
      exact Back.mk (by assumption) (by assumption) fun S => ret _ _ S
    case int i =>
      obtain ⟨t, rfl⟩ := inInt hv
      walk_at "my enter"
      walk_at "my steps"
      exact Back.mk (by assumption) (by assumption) fun S => ret _ _ S
    case str i =>
      obtain ⟨t, rfl⟩ := inStr hv
      walk_at "my enter"
      walk_at "my steps"
      exact Back.mk (by assumption) (by assumption) fun S => ret _ _ S
    case bytes i =>
      cases hv
      walk_at "my enter"
      walk_at "my steps"
      exact Back.mk (by assumption) (by assumption) fun S => ret _ _ S
  | five x d1 d2 d3 d4 =>
    obtain ⟨q, k, v1, v2, v3, v4, v5, rfl, hm, h1, _⟩ := inTup5 hv
    obtain ⟨t, rfl⟩ := inStr h1
    walk_at "my enter"
    walk_at "my steps"
    exact Back.mk (by assumption) (by assumption) fun S => ret _ _ S
  | other h hz =>
    cases hv with
    | tuple hm r =>
      rename_i a vs n ds
      have hl := r.length
      walk_at "my enter"
      walk_at "my steps"
      refine m_len (by assumption) hm (by omega) ?_
      have hn5 : ¬ ((n.length : Int) = 5) := by omega
      walk_at "my steps"
      all_goals first
        | (exfalso; omega)
        | (refine Back.mk (by assumption) (by assumption) fun S => ?_
           have e5 : ((n.length : Int) == 5) = false := by simpa using hn5
           rw [e5, ← isRefD_ne h]; exact ret _ _ S)
end
end
section
section
variable {w : World} {dp un : Nat} {fr : Option (List Env)} {gd : Option (List Code)} {s : Shared} {h₀ : Heap} {news : Ledger} {p : Program} {loose : List Str} {mean : ExcName → Option Value} {mg mb : Str → Option Value} {Q E : Value → Shared → Prop}

theorem c_turned {v : Value} {who : Str} {gs : List Str} {rows part : Dat} (X : (Mine.hd.heap_1 w.params).In h₀) (T : Top p loose mean mg mb h₀) (D : Led h₀ s.heap news) (hd : dp + 10 < recursionLimit)
    (hv : DatIn news v (.tuple [.str (Str.ofString "ref"), .str who, .tuple (gs.map .str), rows, part])) (hw : Who who) (hg : gs.length ≤ 4)
    (ret : ∀ r h' tk' tl, Step s.heap h' news (tl ++ news) → DatIn (tl ++ news) r (turnD (.tuple [.str (Str.ofString "ref"), .str who, .tuple (gs.map .str), rows, part])) → Q r { s with heap := h', toks := tk' }) :
    wpAny (model PySem.Challenge.rw_pb0239_01.row.prog w) (ar dp un fr gd) (call (.ref 212) [v]) Q E s := by
  cases hv with
  | tuple hm r =>
  rcases r with _ | ⟨⟨⟩, _ | ⟨⟨⟩, _ | ⟨hgs, _ | ⟨hr1, _ | ⟨hr2, ⟨⟩⟩⟩⟩⟩⟩
  cases hgs with
  | tuple hg' rg =>
  cases gs with
  | nil =>
    cases rg
    walk_at "my enter"
    walk_at "my steps"
    refine Back.mk (by assumption) (by assumption) fun S => ret _ _ _ _ (Step.addOld S (by intro q hq; k_mem)) (DatIn.left ?_)
    exact .tuple (by k_mem) (.cons (.str _ _) (.cons (.str _ _) (.cons (.tuple (by k_mem) (.cons (.str _ _) .nil)) (.cons (hr1.mono (by intro q hq; k_mem)) (.cons (hr2.mono (by intro q hq; k_mem)) .nil)))))
  | cons g gs =>
    have hl := rg.length
    rcases rg with _ | ⟨⟨⟩, rg⟩
    simp only [List.length_cons, List.length_map] at hl hg
    walk_at "my enter"
    walk_at "my steps"
    refine Back.mk (by assumption) (by assumption) fun S => ret _ _ _ _ (Step.addOld S (by intro q hq; k_mem)) (DatIn.left ?_)
    exact .tuple (by k_mem) (.cons (.str _ _) (.cons (.str _ _) (.cons (.tuple (by k_mem) (.cons (.str _ _) (DatAll.append (rg.mono (by intro q hq; k_mem)) (.cons (.str _ _) .nil)))) (.cons (hr1.mono (by intro q hq; k_mem)) (.cons (hr2.mono (by intro q hq; k_mem)) .nil)))))
end
section
variable {w : World} {dp un : Nat} {fr : Option (List Env)} {gd : Option (List Code)} {s : Shared} {h₀ : Heap} {news : Ledger} {p : Program} {loose : List Str} {mean : ExcName → Option Value} {mg mb : Str → Option Value} {Q E : Value → Shared → Prop}

theorem c_contrary {v : Value} {who : Str} {g : Str} {gs : List Str} {rows part : Dat} (X : (Mine.hd.heap_1 w.params).In h₀) (T : Top p loose mean mg mb h₀) (D : Led h₀ s.heap news) (hd : dp + 10 < recursionLimit)
    (hv : DatIn news v (.tuple [.str (Str.ofString "ref"), .str who, .tuple ((g :: gs).map .str), rows, part])) (hw : Who who) (hg : gs.length ≤ 4)
    (ret : ∀ r h' tk' tl, Step s.heap h' news (tl ++ news) → DatIn (tl ++ news) r (contD (.tuple [.str (Str.ofString "ref"), .str who, .tuple ((g :: gs).map .str), rows, part])) → Q r { s with heap := h', toks := tk' }) :
    wpAny (model PySem.Challenge.rw_pb0239_01.row.prog w) (ar dp un fr gd) (call (.ref 219) [v]) Q E s := by
  cases hv with
  | tuple hm r =>
  rcases r with _ | ⟨⟨⟩, _ | ⟨⟨⟩, _ | ⟨hgs, _ | ⟨hr1, _ | ⟨hr2, ⟨⟩⟩⟩⟩⟩⟩
  cases hgs with
  | tuple hg' rg =>
    have hl := rg.length
    rcases rg with _ | ⟨⟨⟩, rg⟩
    simp only [List.length_cons, List.length_map] at hl hg
    walk_at "my enter"
    walk_at "my steps"
    refine Back.mk (by assumption) (by assumption) fun S => ret _ _ _ _ (Step.addOld S (by intro q hq; k_mem)) (DatIn.left ?_)
    exact .tuple (by k_mem) (.cons (.str _ _) (.cons (.str _ _) (.cons (.tuple (by k_mem) (DatAll.dropLast (.cons (.str _ _) (rg.mono (by intro q hq; k_mem))))) (.cons (hr1.mono (by intro q hq; k_mem)) (.cons (hr2.mono (by intro q hq; k_mem)) .nil)))))
end
end
section
/-- what the second argument of exchanged_refs does to a reference -/
def ChangeOk (w : World) (p : Program) (loose : List Str) (mean : ExcName → Option Value) (mg mb : Str → Option Value) (fa : Addr) (cf : Dat → Dat) (lo hi : Nat) : Prop :=
  ∀ {dp un : Nat} {fr : Option (List Env)} {gd : Option (List Code)} {s : Shared} {h₀ : Heap} {news : Ledger} {Q E : Value → Shared → Prop} {v : Value} {ds : List Dat},
    (Mine.hd.heap_1 w.params).In h₀ → Top p loose mean mg mb h₀ → Led h₀ s.heap news → dp + 10 < recursionLimit → DatIn news v (.tuple ds) → RefL lo hi ds →
    (∀ r h' tk' tl, Step s.heap h' news (tl ++ news) → DatIn (tl ++ news) r (cf (.tuple ds)) → Q r { s with heap := h', toks := tk' }) →
    wpAny (model PySem.Challenge.rw_pb0239_01.row.prog w) (ar dp un fr gd) (call (.ref fa) [v]) Q E s

section
variable {w : World} {p : Program} {loose : List Str} {mean : ExcName → Option Value} {mg mb : Str → Option Value}
theorem c_exch_atom {fa : Addr} (hkeep : keepIn (Mine.hd.heap_1 w.params) (.ref fa) = true) {d : Dat} (hg : Atom d) {dp un : Nat} {fr : Option (List Env)} {gd : Option (List Code)} {s : Shared} {h₀ : Heap} {news : Ledger} {Q E : Value → Shared → Prop} {v : Value}
    (X : (Mine.hd.heap_1 w.params).In h₀) (T : Top p loose mean mg mb h₀) (D : Led h₀ s.heap news) (hd : dp + 20 < recursionLimit) (hu : un + 200 < cLine) (hv : DatIn news v d)
    (ret : ∀ r h' tk' tl, Step s.heap h' news (tl ++ news) → DatIn (tl ++ news) r d → Q r { s with heap := h', toks := tk' }) :
    wpAny (model PySem.Challenge.rw_pb0239_01.row.prog w) (ar dp un fr gd) (call (.ref 39) [v, .ref fa]) Q E s := by
  cases hg <;> cases hv
  all_goals
    walk_at "my enterC"
    walk_at "my steps"
    refine Back.mk (by assumption) (by assumption) fun S => ret _ _ _ _ (Step.addOld S (by intro q hq; k_mem)) (DatIn.left ?_)
    constructor
theorem c_exch {fa : Addr} {cf : Dat → Dat} {lo hi : Nat} (hc : ChangeOk w p loose mean mg mb fa cf lo hi) (hhi : hi ≤ 4) (hkeep : keepIn (Mine.hd.heap_1 w.params) (.ref fa) = true) : ∀ (n : Nat) {d : Dat}, Good lo hi n d → 
   ∀ {dp un : Nat} {fr : Option (List Env)} {gd : Option (List Code)} {s : Shared} {h₀ : Heap} {news : Ledger} {Q E : Value → Shared → Prop} {v : Value},
    (Mine.hd.heap_1 w.params).In h₀ → Top p loose mean mg mb h₀ → Led h₀ s.heap news → dp + 10 * n + 20 < recursionLimit → un + 100 * n + 200 < cLine → DatIn news v d → 
    (∀ r h' tk' tl, Step s.heap h' news (tl ++ news) → DatIn (tl ++ news) r (exch cf d) → Q r { s with heap := h', toks := tk' }) →
    wpAny (model PySem.Challenge.rw_pb0239_01.row.prog w) (ar dp un fr gd) (call (.ref 39) [v, .ref fa]) Q E s := by
  intro n
  induction n with
  | zero =>
    intro d hg dp un fr gd s h₀ news Q E v X T D hd hu hv ret
    rw [exch_atom cf hg] at ret
    exact c_exch_atom hkeep hg X T D (roomD (y := 10 * 0) hd) (roomD (y := 100 * 0) hu) hv ret
  | succ n ih =>
    intro d hg dp un fr gd s h₀ news Q E v X T D hd hu hv ret
    rcases hg with hg | ⟨ds, rfl, h1, h2, h3⟩
    · rw [exch_atom cf hg] at ret
      exact c_exch_atom hkeep hg X T D (roomD hd) (roomD hu) hv ret
    · cases hv with
      | tuple hm r =>
      have hl := r.length
      walk_at "my enterC"
      walk_at "my steps"
      rename_i vs k g L' h' tk' lF X' T' l1 o' d1 N' tk
      refine iter_tuple (R := fun i ys nw => ∃ tl, nw = tl ++ ((L' + 1, o') :: news) ∧ DatAll nw ys ((ds.take i).map (exch cf))) rfl (by assumption) (by assumption) (List.mem_cons_of_mem _ hm) (by rw [sizeLine_eq]; omega) ⟨[], rfl, .nil⟩ ?_ ?_ ?_
      · rintro i ys nw ⟨tl, rfl, _⟩
        exact List.mem_append_right _ (List.mem_cons_of_mem _ hm)
      · rintro C i v ys nw s₃ m₃ hC hvi hi ⟨tl, rfl, hys⟩ hn hm3 F3 N3 hCn hCL
        walk_at "my steps"
        have hlt : i < ds.length := by
          obtain ⟨q, _⟩ := List.getElem?_eq_some_iff.mp hvi
          omega
        obtain ⟨v', hv', hdv⟩ := r.get hlt
        rw [hvi] at hv'; cases hv'
        refine ih (h2 _ (List.getElem_mem hlt)) X' T' (Led.of F3 N3) (roomS (x := dp) hd rfl) (roomK (x := un) hu rfl) (hdv.mono (by intro q hq; k_mem)) fun r h' tk' tl' S Dr => ?_
        k_unfold
        refine ⟨h', tk', _, rfl, S, tl' ++ tl, (List.append_assoc _ _ _).symm, ?_⟩
        rw [List.take_add_one, List.getElem?_eq_getElem hlt]
        rw [List.map_append]
        exact DatAll.append (DatAll.right hys) (.one Dr)
      · rintro D h' tk ys nw k' hy ⟨tl, rfl, hys⟩ F3 N3 hD
        rw [List.take_of_length_le (by omega), ← exchs_map] at hys
        have hz := hys.length
        rw [exchs_length] at hz
        walk_at "my steps"
        rename Fr _ _ _ _ => F4
        rename News _ _ _ _ => N4
        have hv9 := dat_of N4 (d := .tuple (exchs cf ds)) (.tuple (by k_mem) (hys.mono (by intro q hq; k_mem)))
        have hs9 : Sh5 (.tuple (exchs cf ds)) := sh5_of (by rw [exchs_length]; exact h1) fun h => refL_exch hhi cf (h3 (by rw [exchs_length] at h; exact h))
        refine c_isref X' T' (Led.of F4 N4) (roomC (x := dp) hd rfl) (roomC0 (x := un) hu rfl) hv9 hs9 fun h5 tk5 S5 => ?_
        obtain ⟨F5, N5⟩ := S5.fr F4 N4
        clear F4 N4
        rw [exch] at ret
        cases hR : isRefD (.tuple (exchs cf ds)) with
        | false =>
          rw [hR, if_neg Bool.false_ne_true] at ret
          walk_at "my steps"
          refine Back.mk (by assumption) (by assumption) fun S => ret _ _ _ _ (Step.addOld S (by intro q hq; k_mem)) (DatIn.left hv9)
        | true =>
          rw [hR, if_pos rfl] at ret
          walk_at "my steps"
          refine hc X' T' (Led.of F5 N5) (roomC (x := dp) hd rfl) hv9 (refL_exch hhi cf (h3 (by have := isRefD_five hR; rwa [exchs_length] at this))) fun r6 h6 tk6 tl6 S6 D6 => ?_
          obtain ⟨F6, N6⟩ := S6.fr F5 N5
          clear F5 N5
          walk_at "my steps"
          refine Back.mk (by assumption) (by assumption) fun S => ret _ _ _ _ (Step.addOld S (by intro q hq; k_mem)) (DatIn.left D6)
end

section
variable {w : World} {p : Program} {loose : List Str} {mean : ExcName → Option Value} {mg mb : Str → Option Value}
theorem turn_ok : ChangeOk w p loose mean mg mb 212 turnD 0 4 := by
  intro dp un fr gd s h₀ news Q E v ds X T D hd hv hr ret
  obtain ⟨who, gs, rows, part, rfl, hw, _, h2, _⟩ := hr
  exact c_turned X T D hd hv hw h2 ret
theorem cont_ok : ChangeOk w p loose mean mg mb 219 contD 1 4 := by
  intro dp un fr gd s h₀ news Q E v ds X T D hd hv hr ret
  obtain ⟨who, gs, rows, part, rfl, hw, h1, h2, _⟩ := hr
  cases gs with
  | nil => simp at h1
  | cons g gs => exact c_contrary X T D hd hv hw (by simp only [List.length_cons] at h2; omega) ret
end
end
section
section
variable {w : World} {p : Program} {loose : List Str} {mean : ExcName → Option Value} {mg mb : Str → Option Value}
theorem c_hand_atom {d : Dat} (hg : Atom d) {dp un : Nat} {fr : Option (List Env)} {gd : Option (List Code)} {s : Shared} {h₀ : Heap} {news : Ledger} {Q E : Value → Shared → Prop} {v : Value}
    (X : (Mine.hd.heap_1 w.params).In h₀) (T : Top p loose mean mg mb h₀) (D : Led h₀ s.heap news) (hd : dp + 20 < recursionLimit) (hu : un + 200 < cLine) (hv : DatIn news v d)
    (ret : ∀ r h' tk' tl, Step s.heap h' news (tl ++ news) → DatIn (tl ++ news) r d → Q r { s with heap := h', toks := tk' }) :
    wpAny (model PySem.Challenge.rw_pb0239_01.row.prog w) (ar dp un fr gd) (call (.ref 224) [v]) Q E s := by
  cases hg <;> cases hv
  all_goals
    walk_at "my enter"
    walk_at "my steps"
    refine Back.mk (by assumption) (by assumption) fun S => ret _ _ _ _ (Step.addOld S (by intro q hq; k_mem)) (DatIn.left ?_)
    constructor
theorem c_hand {lo hi : Nat} (hhi : hi ≤ 4) : ∀ (n : Nat) {d : Dat}, Good lo hi n d → 
   ∀ {dp un : Nat} {fr : Option (List Env)} {gd : Option (List Code)} {s : Shared} {h₀ : Heap} {news : Ledger} {Q E : Value → Shared → Prop} {v : Value},
    (Mine.hd.heap_1 w.params).In h₀ → Top p loose mean mg mb h₀ → Led h₀ s.heap news → dp + 10 * n + 20 < recursionLimit → un + 100 * n + 200 < cLine → DatIn news v d → 
    (∀ r h' tk' tl, Step s.heap h' news (tl ++ news) → DatIn (tl ++ news) r (hand d) → Q r { s with heap := h', toks := tk' }) →
    wpAny (model PySem.Challenge.rw_pb0239_01.row.prog w) (ar dp un fr gd) (call (.ref 224) [v]) Q E s := by
  intro n
  induction n with
  | zero =>
    intro d hg dp un fr gd s h₀ news Q E v X T D hd hu hv ret
    rw [hand_atom hg] at ret
    exact c_hand_atom hg X T D (roomD (y := 10 * 0) hd) (roomD (y := 100 * 0) hu) hv ret
  | succ n ih =>
    intro d hg dp un fr gd s h₀ news Q E v X T D hd hu hv ret
    rcases hg with hg | ⟨ds, rfl, h1, h2, h3⟩
    · rw [hand_atom hg] at ret
      exact c_hand_atom hg X T D (roomD hd) (roomD hu) hv ret
    · by_cases h5 : ds.length = 5
      · obtain ⟨who, gs, rows, part, rfl, hw, g1, g2, g3⟩ := h3 h5
        cases hv with
        | tuple hm r =>
        rcases r with _ | ⟨⟨⟩, _ | ⟨⟨⟩, _ | ⟨hgs, _ | ⟨hr1, _ | ⟨hr2, ⟨⟩⟩⟩⟩⟩⟩
        cases hr1 with
        | tuple hm1 r1 =>
        have hgr : ∀ e ∈ rows, Good lo hi n e := Good.items (h2 (.tuple rows) (by simp))
        have hgp : Good lo hi n part := h2 part (by simp)
        rw [hand_ref (by omega) g3] at ret
        have hl := r1.length
        walk_at "my enter"
        walk_at "my steps"
        rename Fr _ _ _ _ => F4
        rename News _ _ _ _ => N4
        rename_i X' T' _ _ _
        refine iter_tuple (R := fun i ys nw => ∃ tl, nw = tl ++ news ∧ DatAll nw ys ((rows.take i).map hand)) rfl F4 N4 (by k_mem) (by rw [sizeLine_eq]; omega) ⟨[], rfl, .nil⟩ ?_ ?_ ?_
        · rintro i ys nw ⟨tl, rfl, _⟩
          k_mem
        · rintro C i v ys nw s₃ m₃ hC hvi hi ⟨tl, rfl, hys⟩ hn hm3 F3 N3 hCn hCL
          walk_at "my steps"
          have hlt : i < rows.length := by
            obtain ⟨q, _⟩ := List.getElem?_eq_some_iff.mp hvi
            omega
          obtain ⟨v', hv', hdv⟩ := r1.get hlt
          rw [hvi] at hv'; cases hv'
          refine ih (hgr _ (List.getElem_mem hlt)) X' T' (Led.of F3 N3) (roomS (x := dp) hd rfl) (roomK (x := un) hu rfl) (hdv.mono (by intro q hq; k_mem)) fun r h' tk' tl' S Dr => ?_
          k_unfold
          refine ⟨h', tk', _, rfl, S, tl' ++ tl, (List.append_assoc _ _ _).symm, ?_⟩
          rw [List.take_add_one, List.getElem?_eq_getElem hlt]
          rw [List.map_append]
          exact DatAll.append (DatAll.right hys) (.one Dr)
        · rintro D h' tk ys nw k' hy ⟨tl, rfl, hys⟩ F3 N3 hD
          rw [List.take_of_length_le (by omega), ← hands_map] at hys
          have hz := hys.length
          rw [hands_length] at hz
          clear F4 N4
          walk_at "my steps"
          rename Fr _ _ _ _ => F4
          rename News _ _ _ _ => N4
          refine ih hgp X' T' (Led.of F4 N4) (roomS (x := dp) hd rfl) (roomK (x := un) hu rfl) (hr2.mono (by intro q hq; k_mem)) fun r5 h5 tk5 tl5 S5 D5 => ?_
          obtain ⟨F5, N5⟩ := S5.fr F4 N4
          clear F4 N4
          walk_at "my steps"
          rename Fr _ _ _ _ => F6
          rename News _ _ _ _ => N6
          refine c_turned (who := who) (gs := gs) (rows := .tuple (hands rows)) (part := hand part) X' T' (Led.of F6 N6) (roomC (x := dp) hd rfl) (.tuple (by k_mem) (.cons (.str _ _) (.cons (.str _ _) (.cons (hgs.mono (by intro q hq; k_mem)) (.cons (.tuple (by k_mem) (hys.mono (by intro q hq; k_mem))) (.cons (D5.mono (by intro q hq; k_mem)) .nil)))))) hw (by omega) fun r7 h7 tk7 tl7 S7 D7 => ?_
          obtain ⟨F7, N7⟩ := S7.fr F6 N6
          clear F6 N6
          walk_at "my steps"
          refine Back.mk (by assumption) (by assumption) fun S => ret _ _ _ _ (Step.addOld S (by intro q hq; k_mem)) (DatIn.left D7)
      · cases hv with
        | @tuple a vs k _ hm r =>
        have hl := r.length
        rw [hand_tuple_ne h5] at ret
        walk_at "my enter"
        walk_at "my steps"
        refine m_len (by assumption) (by k_mem) (by omega) ?_
        have hn5 : ¬ ((vs.length : Int) = 5) := by omega
        walk_at "my steps"
        any_goals (exfalso; omega)
        rename Fr _ _ _ _ => F4
        rename News _ _ _ _ => N4
        rename_i X' T' _ _ _ _
        refine iter_tuple (R := fun i ys nw => ∃ tl, nw = tl ++ news ∧ DatAll nw ys ((ds.take i).map hand)) rfl F4 N4 (by k_mem) (by rw [sizeLine_eq]; omega) ⟨[], rfl, .nil⟩ ?_ ?_ ?_
        · rintro i ys nw ⟨tl, rfl, _⟩
          k_mem
        · rintro C i v ys nw s₃ m₃ hC hvi hi ⟨tl, rfl, hys⟩ hn hm3 F3 N3 hCn hCL
          walk_at "my steps"
          have hlt : i < ds.length := by
            obtain ⟨q, _⟩ := List.getElem?_eq_some_iff.mp hvi
            omega
          obtain ⟨v', hv', hdv⟩ := r.get hlt
          rw [hvi] at hv'; cases hv'
          refine ih (h2 _ (List.getElem_mem hlt)) X' T' (Led.of F3 N3) (roomS (x := dp) hd rfl) (roomK (x := un) hu rfl) (hdv.mono (by intro q hq; k_mem)) fun r h' tk' tl' S Dr => ?_
          k_unfold
          refine ⟨h', tk', _, rfl, S, tl' ++ tl, (List.append_assoc _ _ _).symm, ?_⟩
          rw [List.take_add_one, List.getElem?_eq_getElem hlt]
          rw [List.map_append]
          exact DatAll.append (DatAll.right hys) (.one Dr)
        · rintro D h' tk ys nw k' hy ⟨tl, rfl, hys⟩ F3 N3 hD
          rw [List.take_of_length_le (by omega), ← hands_map] at hys
          have hz := hys.length
          rw [hands_length] at hz
          clear F4 N4
          walk_at "my steps"
          refine Back.mk (by assumption) (by assumption) fun S => ret _ _ _ _ (Step.addOld S (by intro q hq; k_mem)) (DatIn.left ?_)
          exact .tuple (by k_mem) (hys.mono (by intro q hq; k_mem))
end
end
section
/-- the first words of what refs_within is handed here -/
inductive Wd : Str → Prop
  | rel : Wd (Str.ofString "rel")
  | or : Wd (Str.ofString "or")
  | move : Wd (Str.ofString "move")
  | number : Wd (Str.ofString "number")
  | ref : Wd (Str.ofString "ref")

theorem Wd.ne1 {x : Str} (h : Wd x) : x ≠ Str.ofString "if" := by cases h <;> decide +kernel
theorem Wd.ne2 {x : Str} (h : Wd x) : x ≠ Str.ofString "evaluate" := by cases h <;> decide +kernel
theorem Wd.ne3 {x : Str} (h : Wd x) : x ≠ Str.ofString "perform" := by cases h <;> decide +kernel
theorem Wd.out {x : Str} {u1 u2 u3 u4 u5 u6 u7 u8 u9 u10 u11 u12 u13 u14 : Tok} (h : Wd x) : ([(Str.ofString "arith", u1), (Str.ofString "divide", u2), (Str.ofString "corr", u3), (Str.ofString "search", u4), (Str.ofString "search-all", u5), (Str.ofString "string", u6), (Str.ofString "unstring", u7), (Str.ofString "read", u8), (Str.ofString "write", u9), (Str.ofString "rewrite", u10), (Str.ofString "delete", u11), (Str.ofString "start", u12), (Str.ofString "return", u13), (Str.ofString "call", u14)].any fun z => z.1.cps.toList == x.cps.toList) = false := by
  cases h <;> (simp only [List.any_cons, List.any_nil]; decide +kernel)
local macro_rules | `(tactic| walk_at "compareOp Eq str str") => `(tactic| (k_dflt (refine' eq_str_ne ?zh ?_; (case zh => assumption); k_whole)))
section
variable {w : World} {dp un : Nat} {fr : Option (List Env)} {gd : Option (List Code)} {s : Shared} {h₀ : Heap} {news : Ledger} {p : Program} {loose : List Str} {mean : ExcName → Option Value} {mg mb : Str → Option Value} {Q E : Value → Shared → Prop}

theorem c_bodies {a : Addr} {k : Nat} {x : Str} {u : Tok} {vs : List Value} {cv : Value} (hw : Wd x) (X : (Mine.hd.heap_1 w.params).In h₀) (T : Top p loose mean mg mb h₀) (D : Led h₀ s.heap news) (hd : dp + 10 < recursionLimit) (hu : un + 100 < cLine)
    (hm : (a, tupO (.str x u :: vs) k) ∈ news) (hz : vs.length ≤ 20)
    (ret : ∀ h' tk', Step s.heap h' news news → Q (.ref a) { s with heap := h', toks := tk' }) :
    wpAny (model PySem.Challenge.rw_pb0239_01.row.prog w) (ar dp un fr gd) (call (.ref 20) [.ref a, cv]) Q E s := by
  have hx1 := hw.ne1
  have hx2 := hw.ne2
  have hx3 := hw.ne3
  walk_at "my enterC"
  walk_at "my steps"
  rename Fr _ _ _ _ => F4
  rename Frag.In _ _ => X'
  refine m_in_strs (r := false) (l := [(Str.ofString "arith", _), (Str.ofString "divide", _), (Str.ofString "corr", _), (Str.ofString "search", _), (Str.ofString "search-all", _), (Str.ofString "string", _), (Str.ofString "unstring", _), (Str.ofString "read", _), (Str.ofString "write", _), (Str.ofString "rewrite", _), (Str.ofString "delete", _), (Str.ofString "start", _), (Str.ofString "return", _), (Str.ofString "call", _)]) (tupK (X'.keeps F4.keep) (by k_is)) ?zhr ?_
  (case zhr => exact hw.out)
  walk_at "my steps"
  exact Back.mk (by assumption) (by assumption) fun S => ret _ _ (S.sub (by intro q hq; k_mem))
end
end
section
/-- a table of a code with one lambda: not made yet, or made -/
def TabP (line col : Int) (ps : Array Value) : Prop := ps = #[] ∨ ∃ c' : Addr, ps = #[rawInt line, rawInt col, .ref c']
abbrev TabR := TabP 19 36

theorem m_lamR {M : Model} {A : Around} {E : Value → Shared → Prop} {s : Shared} {h₀ : Heap} {L a c P : Addr} {m mg mb : Str → Option Value} {cn : Str} {cs : Scope} {ccd : Value} {cl : List (Str × Addr)} {news : Ledger} {g : Obj → Ledger}
    {p : Program} {loose : List Str} {mean : ExcName → Option Value} {name qual : Str} {params : Arguments} {body : Expr} {scope : Scope} {ps : Array Value} {pos : Pos} {firstLine : Nat} {clos : List (Str × Addr)} {Q : Value → Shared → Prop}
    (F : Fr h₀ L s.heap m) (N : News h₀ L s.heap news) (T : Top p loose mean mg mb h₀) (C : CodeHd h₀ c P) (hcd : ccd = .ref c) (U : UpdF P (tabObj ps) news g) (hT : TabP pos.line pos.col ps)
    (hcl : closureFor scope (envX cn cs L a ccd cl) = pure clos)
    (h : ∀ f ps' h' tk, Fr h₀ L h' m → News h₀ L h' (g (tabObj ps')) → TabP pos.line pos.col ps' → Q (.ref f) { s with heap := h', toks := tk }) :
    wpAny M A (makeFunction name qual params (.expr body) scope (envX cn cs L a ccd cl) [] [] [] pos firstLine) Q E s := by
  obtain ⟨own, rest, e1, hg, h1, h2⟩ := U.split
  rcases hT with rfl | ⟨c', rfl⟩
  · refine kla_nest F N T C hcd U True.intro rfl hcl fun f c' oc vs t ctv h' tk F' N' _ _ _ _ => h f _ h' tk F' (news_sub N' fun q hq => List.mem_cons_of_mem _ (List.mem_cons_of_mem _ hq)) (.inr ⟨c', by simp⟩)
  · refine kla_hit (c' := c') F N T C hcd (ps := #[rawInt pos.line, rawInt pos.col, .ref c']) (by rw [e1]; simp) (by simp [TriplesOk, rawInt]) (by simp [codeAmong, rawInt]) hcl fun f ctv h' tk F' N' _ => h f _ h' tk F' (news_sub N' fun q hq => List.mem_cons_of_mem _ (by rw [e1, ← hg]; exact hq)) (.inr ⟨c', rfl⟩)

local macro_rules | `(tactic| walk_at "exec While Compare cons nil") => `(tactic| refine stop_here ?_)
local macro_rules | `(tactic| walk_at "eval Lambda") => `(tactic| (k_dflt (refine' kla_eval ?zd0 ?_; (case zd0 => exact rfl)); k_dflt (refine' m_lamR ?zF ?zN ?zT ?zC ?zcd ?zU ?zt ?zcl ?_; (case zF => k_asm); (case zN => k_asm); (case zT => k_asm); (case zcd => exact rfl); (case zC => assumption); (case zU => k_updF); (case zt => assumption); (case zcl => exact rfl); k_whole); intro f' ps' h' tk' F' N' hT'; (try dsimp only at N')))

section
variable {w : World} {dp un : Nat} {fr : Option (List Env)} {gd : Option (List Code)} {s : Shared} {h₀ : Heap} {rest : Ledger} {p : Program} {loose : List Str} {mean : ExcName → Option Value} {mg mb : Str → Option Value} {Q E : Value → Shared → Prop}

theorem c_refs {lo hi n : Nat} {a : Addr} {k : Nat} {x : Str} {u : Tok} {vs : List Value} {ds : List Dat} {ps : Array Value} (hw : Wd x) (X : (Mine.hd.heap_1 w.params).In h₀) (T : Top p loose mean mg mb h₀) (HC : CodeHd h₀ 33 29)
    (D : Led h₀ s.heap ((29, tabObj ps) :: rest)) (hT : TabR ps) (off : ∀ q ∈ rest, q.1 ≠ 29) (hd : dp + 30 < recursionLimit) (hu : un + 200 < cLine)
    (hm : (a, tupO (.str x u :: vs) k) ∈ rest) (hz : vs.length ≤ 20) (hvs : DatAll rest vs ds) (hg : Good lo hi n (.tuple (.str x :: ds))) (hsz : sz (.tuple (.str x :: ds)) ≤ 50000)
    (ret : ∀ l lk ys h' tk' ps' tl, Step s.heap h' ((29, tabObj ps) :: rest) ((29, tabObj ps') :: (tl ++ rest)) → TabR ps' → (∀ q ∈ tl, q.1 ≠ 29) → (l, lstO ys lk) ∈ tl → DatAll (tl ++ rest) ys (refs (.tuple (.str x :: ds))) → Q (.ref l) { s with heap := h', toks := tk' }) :
    wpAny (model PySem.Challenge.rw_pb0239_01.row.prog w) (ar dp un fr gd) (call (.ref 34) [.ref a]) Q E s := by
  walk_at "my enterS"
  rename (∀ b o, h₀.get? b = some o → _) => st9
  have HC' := CodeHd.keeps HC st9
  walk_at "my steps"
  rename Fr _ _ _ _ => F4
  rename News _ _ _ _ => N4
  rename Frag.In _ _ => X'
  rename Top _ _ _ _ _ _ => T'
  refine c_bodies hw X' T' (Led.of F4 N4) (room1 hd rfl) (room0 (x := un) hu rfl) (by k_mem) hz fun h5 tk5 S5 => ?_
  obtain ⟨F5, N5⟩ := S5.fr F4 N4
  clear F4 N4
  walk_at "my steps"
  unfold Stop
  rename Fr _ _ _ _ => F6
  rename News _ _ _ _ => N6
  rename TabP _ _ _ => hT6
  rename_i fo _ lfo _ _ _ ps' _ _ li _ lli _
  have off1 : ∀ q ∈ (29, tabObj ps') :: rest, q.1 ≠ fo := fun q hq => by
    rcases List.mem_cons.mp hq with rfl | hq
    · exact Nat.ne_of_lt lfo.1
    · exact Nat.ne_of_lt (ktn_ltOf lfo.2 q hq)
  have off2 : ∀ q ∈ (29, tabObj ps') :: rest, q.1 ≠ li := fun q hq => by
    rcases List.mem_cons.mp hq with rfl | hq
    · exact Nat.ne_of_lt lli.2.1
    · exact Nat.ne_of_lt (ktn_ltOf lli.2.2 q hq)
  have hfl : fo ≠ li := Nat.ne_of_lt lli.1
  refine While_inv (fun n1 m1 nw => ∃ fs fk ls lk fd ld, m1 (Str.ofString "found") = some (.ref fo) ∧ m1 (Str.ofString "line") = some (.ref li) ∧ nw = (li, lstO ls lk) :: (fo, lstO fs fk) :: (29, tabObj ps') :: rest ∧
    DatAll rest fs fd ∧ DatAll rest ls ld ∧ (∀ d ∈ ld, Good lo hi n d) ∧ fd ++ ld.reverse.flatMap refs = refs (.tuple (.str x :: ds)) ∧ szs ld = n1 ∧ fd.length + szs ld ≤ 50000) F6 N6 ⟨[], 0, [.ref a], 0, [], [.tuple (.str x :: ds)], rfl, rfl, rfl, .nil, .cons (.tuple hm (.cons (.str _ _) hvs)) .nil, ?_, ?_, rfl, ?_⟩ ?_ ?_
  · intro d hd9; rw [List.mem_singleton.mp hd9]; exact hg
  · simp
  · simp only [szs, List.length_nil]; omega
  · rintro n1 m1 nw h6 tk6 F7 N7 ⟨fs, fk, ls, lk, fd, ld, hfo, hli, rfl, hfs, hls, hgd, href, hn1, hb1⟩
    clear F6 N6
    rcases List.eq_nil_or_concat ld with rfl | ⟨ld, d, rfl⟩
    · cases hls
      walk_at "my steps"
      rename Fr _ _ _ _ => F8
      rename News _ _ _ _ => N8
      rw [List.reverse_nil, List.flatMap_nil, List.append_nil] at href
      subst href
      refine Back.mk F8 (news_sub N8 (news' := (29, tabObj ps') :: ([(fo, lstO fs fk)] ++ rest)) (by intro q hq; simp only [List.mem_cons, List.mem_append, List.not_mem_nil, or_false] at hq ⊢; grind)) fun S => ret fo fk fs _ _ ps' [(fo, lstO fs fk)] S hT6 (by intro q hq; rw [List.mem_singleton.mp hq]; exact (Nat.ne_of_lt lfo.1).symm) List.mem_cons_self (DatAll.right hfs)
    · rw [List.concat_eq_append] at *
      obtain ⟨ls, v, rfl, hls', hv⟩ := DatAll.snoc' hls
      have hld := hls'.length
      have hfd := hfs.length
      have hbl := length_szs ld
      have hsd := sz_pos d
      rw [szs_append] at hb1 hn1
      simp only [szs] at hb1 hn1
      walk_at "my steps"
      rename Fr _ _ _ _ => F8
      rename News _ _ _ _ => N8
      refine m_ne_nil (vs := ls) (x := v) N8 (by k_mem) (by k_mem) (by dsimp only [ar, Around.deeper]; omega) ?_
      walk_at "my steps"
      have N9 := news_sub N8 (news' := (li, lstO (ls ++ [v]) lk) :: (fo, lstO fs fk) :: (29, tabObj ps') :: rest) (by intro q hq; k_mem)
      refine m_pop F8 N9 (List.forall_mem_cons.mpr ⟨hfl, off2⟩) (by omega) fun h9 F9 N9 => ?_
      clear F8 N8
      walk_at "my steps"
      have hgd1 : ∀ e ∈ ld, Good lo hi n e := fun e he => hgd e (List.mem_append_left _ he)
      have hgd2 : Good lo hi n d := hgd d (by simp)
      rw [List.reverse_append, List.reverse_singleton, List.flatMap_append] at href
      rename Fr _ _ _ _ => F8
      rename News _ _ _ _ => N8
      refine c_isref (d := d) X' T' (Led.of F8 N8) (room1 hd rfl) (room0 (x := un) hu rfl) (hv.mono (by intro q hq; k_mem)) hgd2.sh5 fun h5 tk5 S5 => ?_
      obtain ⟨F5, N5⟩ := S5.fr F8 N8
      clear F8 N8
      rcases Good.cases hgd2 with hat | ⟨es, rfl, e1, e2⟩
      · have hr0 : [d].flatMap refs = [] := by cases hat <;> simp [refs]
        rw [hr0, List.nil_append] at href
        cases hat <;> cases hv
        all_goals
          rw [isRefD]
          walk_at "my steps"
          rename Fr _ _ _ _ => F8
          rename News _ _ _ _ => N8
          exact WhileStep.intro (n' := szs ld) F8 (news_sub N8 (news' := (li, lstO ls (lk + 1)) :: (fo, lstO fs fk) :: (29, tabObj ps') :: rest) (by intro q hq; k_mem)) (by omega) ⟨fs, fk, ls, lk + 1, fd, ld, by assumption, by assumption, rfl, hfs, hls', hgd1, href, rfl, by omega⟩
      · cases hv with
        | @tuple bt us kb _ mb rb =>
        have hub := rb.length
        have hrefd : [Dat.tuple es].flatMap refs = (if isRefD (.tuple es) then [.tuple es] else []) ++ es.flatMap refs := by
          rw [List.flatMap_singleton, refs, refss_map]
        rw [hrefd] at href
        have hle := length_szs es
        simp only [sz] at hb1 hn1
        have hrev : (ld ++ es.reverse).reverse = es ++ ld.reverse := by simp
        have hszr : szs (ld ++ es.reverse) = szs ld + szs es := by rw [szs_append, szs_reverse]
        have hgood : ∀ e ∈ ld ++ es.reverse, Good lo hi n e := fun e he => (List.mem_append.mp he).elim (hgd1 e) fun h => e2 e (List.mem_reverse.mp h)
        have hall : DatAll rest (ls ++ us.reverse) (ld ++ es.reverse) := hls'.append (DatAll.rev rb)
        cases hR : isRefD (.tuple es) with
        | false => 
          rw [hR, if_neg Bool.false_ne_true, List.nil_append] at href
          walk_at "my steps"
          rename Fr _ _ _ _ => F8
          rename News _ _ _ _ => N8
          have N9 := news_swap N8
          refine m_extend F8 N9 (List.forall_mem_cons.mpr ⟨news_ne N8 List.mem_cons_self (List.mem_cons_of_mem _ List.mem_cons_self) tup_ne_list, List.forall_mem_cons.mpr ⟨hfl, off2⟩⟩) List.mem_cons_self (by rw [List.length_reverse]; omega) fun h9 k9 F9 N9 => ?_
          clear F8 N8
          walk_at "my steps"
          exact WhileStep.intro (n' := szs (ld ++ es.reverse)) F9 (news_drop2 N9) (by omega) ⟨fs, fk, _, k9, fd, _, by assumption, by assumption, rfl, hfs, hall, hgood, by rw [hrev, List.flatMap_append]; exact href, rfl, by omega⟩
        | true =>
          rw [hR, if_pos rfl] at href
          walk_at "my steps"
          rename Fr _ _ _ _ => F8
          rename News _ _ _ _ => N8
          rw [List.push_toArray] at N8
          have N9 := news_swap N8
          refine m_extend F8 N9 (List.forall_mem_cons.mpr ⟨news_ne N8 List.mem_cons_self (List.mem_cons_of_mem _ List.mem_cons_self) tup_ne_list, List.forall_mem_cons.mpr ⟨hfl, off2⟩⟩) List.mem_cons_self (by rw [List.length_reverse]; omega) fun h9 k9 F9 N9 => ?_
          clear F8 N8
          walk_at "my steps"
          exact WhileStep.intro (n' := szs (ld ++ es.reverse)) F9 (news_drop2 N9) (by omega) ⟨_, _, _, k9, fd ++ [.tuple es], _, by assumption, by assumption, rfl, hfs.append (.one (.tuple mb rb)), hall, hgood, by rw [hrev, List.flatMap_append, List.append_assoc]; exact href, rfl, by rw [List.length_append]; simp only [List.length_singleton]; omega⟩
  · exact PassesOwn.never
end
end
section
local macro_rules | `(tactic| walk_at "compareOp Eq str str") => `(tactic| (k_dflt (refine' eq_str_ne ?zh ?_; (case zh => assumption); k_whole)))
/-- expressions: leaves of which nothing is asked but the first word -/
inductive Ex where
  | leaf (d : Dat)
  | neg (e : Ex)
  | add (a b : Ex)
noncomputable def Ex.dat : Ex → Dat
  | .leaf d => d
  | .neg e => .tuple [.str (Str.ofString "neg"), e.dat]
  | .add a b => .tuple [.str (Str.ofString "+"), a.dat, b.dat]
noncomputable def Ex.post : Ex → List Dat
  | .leaf d => [.tuple [.str (Str.ofString "leaf"), d]]
  | .neg e => e.post ++ [.tuple [.str (Str.ofString "op"), .str (Str.ofString "neg")]]
  | .add a b => a.post ++ b.post ++ [.tuple [.str (Str.ofString "op"), .str (Str.ofString "+")]]
noncomputable def Ex.w : Ex → Nat
  | .leaf _ => 1
  | .neg e => e.w + 2
  | .add a b => a.w + b.w + 2
theorem Ex.w_pos (e : Ex) : 1 ≤ e.w := by cases e <;> simp only [Ex.w] <;> omega

/-- the leaves' first words -/
inductive Lw : Str → Prop
  | number : Lw (Str.ofString "number")
  | text : Lw (Str.ofString "text")
  | figure : Lw (Str.ofString "figure")
  | ref : Lw (Str.ofString "ref")
theorem Lw.ne {x : Str} (h : Lw x) : x ≠ Str.ofString "neg" := by cases h <;> decide +kernel
theorem Lw.out {x : Str} {u1 u2 u3 u4 u5 : Tok} (h : Lw x) : ([(Str.ofString "+", u1), (Str.ofString "-", u2), (Str.ofString "*", u3), (Str.ofString "/", u4), (Str.ofString "**", u5)].any fun z => z.1.cps.toList == x.cps.toList) = false := by
  cases h <;> (simp only [List.any_cons, List.any_nil]; decide +kernel)
/-- what _law_number asks of a leaf -/
inductive LeafV : Dat → Prop
  | ref (who : Str) (d2 d3 d4 : Dat) (hw : Who who) : LeafV (.tuple [.str (Str.ofString "ref"), .str who, d2, d3, d4])
  | number (i : Int) : LeafV (.tuple [.str (Str.ofString "number"), .tuple [.int i, .int 0]])
  | text (b : Array UInt8) : LeafV (.tuple [.str (Str.ofString "text"), .bytes b])
  | figure (x : Str) : LeafV (.tuple [.str (Str.ofString "figure"), .str x])
def LeafOk (d : Dat) : Prop := (∃ x ds, d = .tuple (.str x :: ds) ∧ Lw x ∧ ds.length ≤ 20) ∧ LeafV d
def Ex.Ok : Ex → Prop
  | .leaf d => LeafOk d
  | .neg e => e.Ok
  | .add a b => a.Ok ∧ b.Ok

/-- what stands in postfix's line -/
inductive It where
  | ex (e : Ex)
  | op (x : Str)
noncomputable def It.dat : It → Dat
  | .ex e => .tuple [.str (Str.ofString "expr"), e.dat]
  | .op x => .tuple [.str (Str.ofString "op"), .str x]
noncomputable def It.out : It → List Dat
  | .ex e => e.post
  | .op x => [.tuple [.str (Str.ofString "op"), .str x]]
noncomputable def It.w : It → Nat
  | .ex e => e.w
  | .op _ => 1
def It.Ok : It → Prop
  | .ex e => e.Ok
  | .op _ => True
theorem It.w_pos (i : It) : 1 ≤ i.w := by cases i <;> simp only [It.w, Nat.le_refl]; exact Ex.w_pos _
noncomputable def ws : List It → Nat
  | [] => 0
  | i :: r => i.w + ws r
theorem ws_append : ∀ a b : List It, ws (a ++ b) = ws a + ws b
  | [], b => by simp [ws]
  | i :: a, b => by simp only [List.cons_append, ws, ws_append a b]; omega
theorem length_ws : ∀ a : List It, a.length ≤ ws a
  | [] => Nat.le_refl _
  | i :: a => by have := It.w_pos i; have := length_ws a; simp only [List.length_cons, ws]; omega

local macro_rules | `(tactic| walk_at "exec While Name cons nil") => `(tactic| refine stop_here ?_)
section
variable {w : World} {dp un : Nat} {fr : Option (List Env)} {gd : Option (List Code)} {s : Shared} {h₀ : Heap} {news : Ledger} {p : Program} {loose : List Str} {mean : ExcName → Option Value} {mg mb : Str → Option Value} {Q E : Value → Shared → Prop}

theorem c_postfix {v : Value} {e : Ex} (X : (Mine.hd.heap_1 w.params).In h₀) (T : Top p loose mean mg mb h₀) (D : Led h₀ s.heap news) (hd : dp + 30 < recursionLimit) (hu : un + 200 < cLine)
    (hv : DatIn news v e.dat) (hok : e.Ok) (hsz : e.w ≤ 50000)
    (ret : ∀ l lk ys h' tk' tl, Step s.heap h' news (tl ++ news) → (l, lstO ys lk) ∈ tl → (∀ q ∈ tl, q.2.cls = .type "tuple" ∨ q = (l, lstO ys lk)) → DatAll (tl ++ news) ys e.post → Q (.ref l) { s with heap := h', toks := tk' }) :
    wpAny (model PySem.Challenge.rw_pb0239_01.row.prog w) (ar dp un fr gd) (call (.ref 167) [v]) Q E s := by
  walk_at "my enter"
  walk_at "my steps"
  unfold Stop
  rename Fr _ _ _ _ => F6
  rename News _ _ _ _ => N6
  rename Frag.In _ _ => X'
  rename Top _ _ _ _ _ _ => T'
  rename_i fo _ lfo _ _ Dx _ _ li _ lli _
  have off1 : ∀ q ∈ news, q.1 ≠ fo := fun q hq => Nat.ne_of_lt (lfo q hq)
  have off2 : ∀ q ∈ news, q.1 ≠ li := fun q hq => Nat.ne_of_lt (ktn_ltOf lli.2.2 q hq)
  have hfl : fo ≠ li := Nat.ne_of_lt lli.2.1
  refine While_inv (fun n1 m1 nw => ∃ fs fk ls lk fd its tl, m1 (Str.ofString "found") = some (.ref fo) ∧ m1 (Str.ofString "line") = some (.ref li) ∧ nw = (li, lstO ls lk) :: (fo, lstO fs fk) :: (tl ++ news) ∧
    (∀ q ∈ tl, q.2.cls = .type "tuple") ∧ DatAll (tl ++ news) fs fd ∧ DatAll (tl ++ news) ls (its.map It.dat) ∧ (∀ i ∈ its, i.Ok) ∧ fd ++ its.reverse.flatMap It.out = e.post ∧ ws its = n1 ∧ fd.length + ws its ≤ 50000)
    F6 (news_swap2 N6) ⟨[], 0, [.ref Dx], 0, [], [.ex e], [(Dx, _)], rfl, rfl, rfl, ?_, .nil, ?_, ?_, ?_, rfl, ?_⟩ ?_ ?_
  · intro q hq; rw [List.mem_singleton.mp hq]
  · exact .cons (.tuple List.mem_cons_self (.cons (.str _ _) (.cons (hv.mono fun q hq => List.mem_cons_of_mem _ hq) .nil))) .nil
  · intro i hi; rw [List.mem_singleton.mp hi]; exact hok
  · simp [It.out]
  · simp only [ws, It.w, List.length_nil]; omega
  · rintro n1 m1 nw h6 tk6 F7 N7 ⟨fs, fk, ls, lk, fd, its, tl, hfo, hli, rfl, htl, hfs, hls, hok1', href, hn1, hb1⟩
    clear F6 N6
    rcases List.eq_nil_or_concat its with rfl | ⟨its, it, rfl⟩
    · cases hls
      walk_at "my steps"
      rename Fr _ _ _ _ => F8
      rename News _ _ _ _ => N8
      rw [List.reverse_nil, List.flatMap_nil, List.append_nil] at href
      subst href
      refine Back.mk F8 (news_sub N8 (news' := ((fo, lstO fs fk) :: tl) ++ news) (fun q hq => by simp only [List.mem_cons, List.cons_append] at hq ⊢; grind)) fun S => ret fo fk fs _ _ ((fo, lstO fs fk) :: tl) S List.mem_cons_self (List.forall_mem_cons.mpr ⟨.inr rfl, fun q hq => .inl (htl q hq)⟩) (hfs.mono fun q hq => List.mem_cons_of_mem _ hq)
    · rw [List.concat_eq_append] at *
      rw [List.map_append] at hls
      obtain ⟨ls, v, rfl, hls', hv⟩ := DatAll.snoc' hls
      walk_at "my steps"
      have hld := hls'.length
      have hfd := hfs.length
      have hbl := length_ws its
      have hsd := It.w_pos it
      rw [ws_append] at hb1 hn1
      simp only [ws, List.length_map] at hb1 hn1 hld
      have offt : ∀ q ∈ tl ++ news, q.1 ≠ li := fun q hq => (List.mem_append.mp hq).elim (fun h => news_ne N7 (List.mem_cons_of_mem _ (List.mem_cons_of_mem _ hq)) List.mem_cons_self (by rw [htl q h]; exact tup_ne_list)) (off2 q)
      have offf : ∀ q ∈ tl ++ news, q.1 ≠ fo := fun q hq => (List.mem_append.mp hq).elim (fun h => news_ne N7 (a := q.1) (o1 := q.2) (List.mem_cons_of_mem _ (List.mem_cons_of_mem _ hq)) (List.mem_cons_of_mem _ List.mem_cons_self) (by rw [htl q h]; exact tup_ne_list)) (off1 q)
      have hok1 : ∀ i ∈ its, i.Ok := fun i hi => hok1' i (List.mem_append_left _ hi)
      have hok2 : it.Ok := hok1' it (by simp)
      rw [List.reverse_append, List.reverse_singleton, List.flatMap_append] at href
      refine m_truthy1 (vs := ls) (x := v) N7 (by k_mem) (by omega) ?_
      walk_at "my steps"
      rename Fr _ _ _ _ => F8
      rename News _ _ _ _ => N8
      refine m_pop F8 N8 (List.forall_mem_cons.mpr ⟨hfl, offt⟩) (by omega) fun h9 F9 N9 => ?_
      clear F8 N8
      cases it with
      | op x =>
        obtain ⟨xa, ka, t1, t2, rfl, mb⟩ := inPairSS hv
        walk_at "my steps"
        rename Fr _ _ _ _ => F8
        rename News _ _ _ _ => N8
        rw [List.push_toArray] at N8
        exact WhileStep.intro (n' := ws its) F8 (news_op N8) (by omega) ⟨_, _, _, _, fd ++ [_], its, _, by assumption, by assumption, rfl, List.forall_mem_cons.mpr ⟨rfl, htl⟩, (hfs.mono fun q hq => List.mem_cons_of_mem _ hq).append (.one (.tuple List.mem_cons_self (.cons (.str _ _) (.cons (.str _ _) .nil)))), hls'.mono fun q hq => List.mem_cons_of_mem _ hq, hok1, by rw [List.append_assoc]; exact href, rfl, by rw [List.length_append, List.length_singleton]; omega⟩
      | ex e1 =>
        cases e1 with
        | leaf d => 
          obtain ⟨⟨x, ds, rfl, hx, hds⟩, _⟩ := hok2
          obtain ⟨xa, ka, t1, v2, rfl, mb, hv2⟩ := inPairS hv
          obtain ⟨xb, kb, t2, vs2, rfl, mb2, rb2⟩ := inWord hv2
          have hxn : x ≠ Str.ofString "neg" := hx.ne
          · walk_at "my steps"
            rename Fr _ _ _ _ => F8
            refine m_in_strs (r := false) (l := [(Str.ofString "+", _), (Str.ofString "-", _), (Str.ofString "*", _), (Str.ofString "/", _), (Str.ofString "**", _)]) (tupK (X'.keeps F8.keep) (by k_is)) ?zhr ?_
            (case zhr => exact hx.out)
            walk_at "my steps"
            rename Fr _ _ _ _ => F8
            rename News _ _ _ _ => N8
            rw [List.push_toArray] at N8
            exact WhileStep.intro (n' := ws its) F8 (news_op N8) (by omega) ⟨_, _, _, _, fd ++ [_], its, _, by assumption, by assumption, rfl, List.forall_mem_cons.mpr ⟨rfl, htl⟩, (hfs.mono fun q hq => List.mem_cons_of_mem _ hq).append (.one (.tuple List.mem_cons_self (.cons (.str _ _) (.cons (.tuple (List.mem_cons_of_mem _ mb2) (.cons (.str _ _) (rb2.mono fun q hq => List.mem_cons_of_mem _ hq))) .nil)))), hls'.mono fun q hq => List.mem_cons_of_mem _ hq, hok1, by rw [List.append_assoc]; exact href, rfl, by rw [List.length_append, List.length_singleton]; omega⟩
        | neg e2 => 
          simp only [It.w, Ex.w] at hb1 hn1
          obtain ⟨xa, ka, t1, v2, rfl, mb, hv2⟩ := inPairS hv
          obtain ⟨xb, kb, t2, v3, rfl, mb2, hv3⟩ := inPairS hv2
          walk_at "my steps"
          rename Fr _ _ _ _ => F8
          refine m_in_strs (r := false) (l := [(Str.ofString "+", _), (Str.ofString "-", _), (Str.ofString "*", _), (Str.ofString "/", _), (Str.ofString "**", _)]) (tupK (X'.keeps F8.keep) (by k_is)) ?zhr ?_
          (case zhr => decide +kernel)
          walk_at "my steps"
          rename Fr _ _ _ _ => F8
          rename News _ _ _ _ => N8
          rename (_ < _ ∧ _ < _ ∧ _ < _ ∧ _ < _ ∧ AllLt _ _) => l9
          have n1 := news_ne N8 (List.mem_cons_of_mem _ List.mem_cons_self) (List.mem_cons_of_mem _ (List.mem_cons_of_mem _ (List.mem_cons_of_mem _ List.mem_cons_self))) tup_ne_list
          have n2 := news_ne N8 (List.mem_cons_of_mem _ (List.mem_cons_of_mem _ List.mem_cons_self)) (List.mem_cons_of_mem _ (List.mem_cons_of_mem _ (List.mem_cons_of_mem _ List.mem_cons_self))) tup_ne_list
          refine m_extendL F8 (news_ext2 N8) (List.forall_mem_cons.mpr ⟨(Nat.ne_of_lt l9.2.2.1).symm, List.forall_mem_cons.mpr ⟨n1, List.forall_mem_cons.mpr ⟨n2, List.forall_mem_cons.mpr ⟨hfl, offt⟩⟩⟩⟩) List.mem_cons_self (List.cons_ne_nil _ _) (by simp only [List.length_cons, List.length_nil]; omega) fun h9 F9 N9 => ?_
          clear F8 N8
          walk_at "my steps"
          exact WhileStep.intro (n' := ws (its ++ [.op (Str.ofString "neg"), .ex e2])) F9 (news_end2 N9) (by rw [ws_append]; simp only [ws, It.w]; omega) ⟨fs, fk, _, _, fd, _, _, by assumption, by assumption, rfl, List.forall_mem_cons.mpr ⟨rfl, List.forall_mem_cons.mpr ⟨rfl, htl⟩⟩,
            hfs.mono fun q hq => List.mem_cons_of_mem _ (List.mem_cons_of_mem _ hq), by
              rw [List.map_append]
              exact (hls'.mono fun q hq => List.mem_cons_of_mem _ (List.mem_cons_of_mem _ hq)).append (.cons (.tuple (List.mem_cons_of_mem _ List.mem_cons_self) (.cons (.str _ _) (.cons (.str _ _) .nil))) (.cons (.tuple List.mem_cons_self (.cons (.str _ _) (.cons (hv3.mono fun q hq => List.mem_cons_of_mem _ (List.mem_cons_of_mem _ hq)) .nil))) .nil)),
            by
              intro i hi
              rcases List.mem_append.mp hi with hi | hi
              · exact hok1 i hi
              · simp only [List.mem_cons, List.not_mem_nil, or_false] at hi
                rcases hi with rfl | rfl
                · trivial
                · exact hok2,
            by rw [← href]; simp [It.out, Ex.post], rfl, by rw [ws_append]; simp only [ws, It.w]; omega⟩
        | add e2 e3 =>
          simp only [It.w, Ex.w] at hb1 hn1
          obtain ⟨xa, ka, t1, v2, rfl, mb, hv2⟩ := inPairS hv
          obtain ⟨xb, kb, t2, v3, v4, rfl, mb2, hv3, hv4⟩ := inTriS hv2
          walk_at "my steps"
          rename Fr _ _ _ _ => F8
          refine m_in_strs (r := true) (l := [(Str.ofString "+", _), (Str.ofString "-", _), (Str.ofString "*", _), (Str.ofString "/", _), (Str.ofString "**", _)]) (tupK (X'.keeps F8.keep) (by k_is)) ?zhr ?_
          (case zhr => decide +kernel)
          walk_at "my steps"
          rename Fr _ _ _ _ => F8
          rename News _ _ _ _ => N8
          rename (_ < _ ∧ _ < _ ∧ _ < _ ∧ _ < _ ∧ _ < _ ∧ AllLt _ _) => l9
          have n1 := news_ne N8 (List.mem_cons_of_mem _ List.mem_cons_self) (List.mem_cons_of_mem _ (List.mem_cons_of_mem _ (List.mem_cons_of_mem _ (List.mem_cons_of_mem _ List.mem_cons_self)))) tup_ne_list
          have n2 := news_ne N8 (List.mem_cons_of_mem _ (List.mem_cons_of_mem _ List.mem_cons_self)) (List.mem_cons_of_mem _ (List.mem_cons_of_mem _ (List.mem_cons_of_mem _ (List.mem_cons_of_mem _ List.mem_cons_self)))) tup_ne_list
          have n3 := news_ne N8 (List.mem_cons_of_mem _ (List.mem_cons_of_mem _ (List.mem_cons_of_mem _ List.mem_cons_self))) (List.mem_cons_of_mem _ (List.mem_cons_of_mem _ (List.mem_cons_of_mem _ (List.mem_cons_of_mem _ List.mem_cons_self)))) tup_ne_list
          refine m_extendL F8 (news_ext3 N8) (List.forall_mem_cons.mpr ⟨(Nat.ne_of_lt l9.2.2.2.1).symm, List.forall_mem_cons.mpr ⟨n1, List.forall_mem_cons.mpr ⟨n2, List.forall_mem_cons.mpr ⟨n3, List.forall_mem_cons.mpr ⟨hfl, offt⟩⟩⟩⟩⟩) List.mem_cons_self (List.cons_ne_nil _ _) (by simp only [List.length_cons, List.length_nil]; omega) fun h9 F9 N9 => ?_
          clear F8 N8
          walk_at "my steps"
          have up : ∀ {a b c : Addr × Obj}, ∀ q ∈ tl ++ news, q ∈ (a :: b :: c :: tl) ++ news := fun q hq => List.mem_cons_of_mem _ (List.mem_cons_of_mem _ (List.mem_cons_of_mem _ hq))
          exact WhileStep.intro (n' := ws (its ++ [.op (Str.ofString "+"), .ex e3, .ex e2])) F9 (news_end3 N9) (by rw [ws_append]; simp only [ws, It.w]; omega) ⟨fs, fk, _, _, fd, _, _, by assumption, by assumption, rfl, List.forall_mem_cons.mpr ⟨rfl, List.forall_mem_cons.mpr ⟨rfl, List.forall_mem_cons.mpr ⟨rfl, htl⟩⟩⟩,
            hfs.mono up, by
              rw [List.map_append]
              exact (hls'.mono up).append (.cons (.tuple (List.mem_cons_of_mem _ (List.mem_cons_of_mem _ List.mem_cons_self)) (.cons (.str _ _) (.cons (.str _ _) .nil))) (.cons (.tuple (List.mem_cons_of_mem _ List.mem_cons_self) (.cons (.str _ _) (.cons (hv4.mono up) .nil))) (.cons (.tuple List.mem_cons_self (.cons (.str _ _) (.cons (hv3.mono up) .nil))) .nil))),
            by
              intro i hi
              rcases List.mem_append.mp hi with hi | hi
              · exact hok1 i hi
              · simp only [List.mem_cons, List.not_mem_nil, or_false] at hi
                rcases hi with rfl | rfl | rfl
                · trivial
                · exact hok2.2
                · exact hok2.1,
            by rw [← href]; simp [It.out, Ex.post], rfl, by rw [ws_append]; simp only [ws, It.w]; omega⟩
  · exact PassesOwn.never
end
end
section
section
variable {w : World} {dp un : Nat} {fr : Option (List Env)} {gd : Option (List Code)} {s : Shared} {h₀ : Heap} {p : Program} {loose : List Str} {mean : ExcName → Option Value} {mg mb : Str → Option Value} {Q E : Value → Shared → Prop}

noncomputable abbrev tapeO (C T : Addr) (cs : List Value) (ck tk : Nat) (k : Int) (kt : Tok) (rest : Ledger) : Ledger := (C, lstO cs ck) :: (T, lstO [.ref C, .int k kt] tk) :: rest

theorem c_draw {C T : Addr} {cs : List Value} {ns : List Int} {ck tk : Nat} {k : Int} {kt : Tok} {rest : Ledger} {lim : Int} {lt : Tok} (X : (Mine.hd.heap_1 w.params).In h₀) (Tp : Top p loose mean mg mb h₀) (D : Led h₀ s.heap ((C, lstO cs ck) :: (T, lstO [.ref C, .int k kt] tk) :: rest)) (hd : dp + 20 < recursionLimit) (hu : un + 100 < cLine)
    (offC : ∀ q ∈ rest, q.1 ≠ C) (offT : ∀ q ∈ rest, q.1 ≠ T) (hCT : C ≠ T) (hi : IntsAre cs ns) (hn0 : 0 < ns.length) (hn1 : ns.length ≤ 100) (hl0 : 1 ≤ lim) (hl1 : lim ≤ 9)
    (ret : ∀ r t cs' ns' k' kt' h' tk', Step s.heap h' ((C, lstO cs ck) :: (T, lstO [.ref C, .int k kt] tk) :: rest) ((C, lstO cs' ck) :: (T, lstO [.ref C, .int k' kt'] tk) :: rest) → IntsAre cs' ns' → ns'.length = ns.length → 0 ≤ r → r < lim → Q (.int r t) { s with heap := h', toks := tk' }) :
    wpAny (model PySem.Challenge.rw_pb0239_01.row.prog w) (ar dp un fr gd) (call (.ref 193) [.ref T, .int lim lt]) Q E s := by
  walk_at "my enter"
  walk_at "my steps"
  all_goals
    rename Fr _ _ _ _ => F8
    rename News _ _ _ _ => N8
    have hp : (0 : Int) < (ns.length : Int) := by omega
    have b0 := Int.fmod_nonneg_of_pos k hp
    have b1 := Int.fmod_lt_of_pos k hp
    refine ksa_set F8 N8 (.head (List.forall_mem_cons.mpr ⟨hCT.symm, offC⟩)) hi b0 b1 (by omega) fun h9 F9 N9 hi' hl' _ => ?_
    clear F8 N8
    walk_at "my steps"
    rename Fr _ _ _ _ => F8
    rename News _ _ _ _ => N8
    have hq : (0 : Int) < lim := by omega
    exact Back.mk F8 N8 fun S => ret _ _ _ _ _ _ _ _ S hi' hl' (Int.fmod_nonneg_of_pos _ hq) (Int.fmod_lt_of_pos _ hq)
end
end
section
/-- what one call of _law_expr gives, but for the heap -/
structure Got (rest tl : Ledger) (ins ins' : List Int) (cs' ns ns' us : List Value) (v : Value) (e : Ex) (n : Nat) : Prop where
  nu : ns' = ns ++ us
  ia : IntsAre cs' ins'
  il : ins'.length = ins.length
  tp : ∀ q ∈ tl, q.2.cls = .type "tuple"
  dv : DatIn (tl ++ rest) v e.dat
  du : DatAll (tl ++ rest) us (refs e.dat)
  ok : e.Ok
  gd : Good 0 1 (2 * n + 2) e.dat
  zz : sz e.dat + 4 ≤ 9 * 3 ^ n

/-- the leaves that _law_expr makes -/
inductive Lf : Dat → Prop
  | number (i : Int) : Lf (.tuple [.str (Str.ofString "number"), .tuple [.int i, .int 0]])
  | text : Lf (.tuple [.str (Str.ofString "text"), .bytes #[114, 101, 102]])
  | figure : Lf (.tuple [.str (Str.ofString "figure"), .str (Str.ofString "ZERO")])
theorem good_two {a b : Dat} {n : Nat} (ha : Good 0 1 n a) (hb : Good 0 1 n b) : Good 0 1 (n + 1) (.tuple [a, b]) :=
  .inr ⟨_, rfl, by simp, List.forall_mem_cons.mpr ⟨ha, List.forall_mem_cons.mpr ⟨hb, fun _ h => nomatch h⟩⟩, fun h => absurd h (by simp)⟩
theorem good_three {a b c : Dat} {n : Nat} (ha : Good 0 1 n a) (hb : Good 0 1 n b) (hc : Good 0 1 n c) : Good 0 1 (n + 1) (.tuple [a, b, c]) :=
  .inr ⟨_, rfl, by simp, List.forall_mem_cons.mpr ⟨ha, List.forall_mem_cons.mpr ⟨hb, List.forall_mem_cons.mpr ⟨hc, fun _ h => nomatch h⟩⟩⟩, fun h => absurd h (by simp)⟩
theorem good_atom {d : Dat} {n : Nat} (h : Atom d) : Good 0 1 n d := Good.le (n := 0) h (Nat.zero_le _)
theorem Lf.good {d : Dat} (h : Lf d) : Good 0 1 2 d := by
  cases h
  · exact good_two (good_atom (.str _)) (good_two (good_atom (.int _)) (good_atom (.int _)))
  · exact good_two (good_atom (.str _)) (good_atom (.bytes _))
  · exact good_two (good_atom (.str _)) (good_atom (.str _))
theorem Lf.sz {d : Dat} (h : Lf d) : sz d ≤ 5 := by cases h <;> simp [Mine.sz, szs]
theorem Lf.refs {d : Dat} (h : Lf d) : refs d = [] := by cases h <;> simp [Mine.refs, refss, isRefD]
theorem Lf.leaf {d : Dat} (h : Lf d) : LeafOk d := by
  cases h
  · exact ⟨⟨_, _, rfl, .number, by simp⟩, .number _⟩
  · exact ⟨⟨_, _, rfl, .text, by simp⟩, .text _⟩
  · exact ⟨⟨_, _, rfl, .figure, by simp⟩, .figure _⟩
theorem Got.leaf {rest tl : Ledger} {ins ins' : List Int} {cs' ns : List Value} {v : Value} {d : Dat} {n : Nat} (h : Lf d) (ia : IntsAre cs' ins') (il : ins'.length = ins.length) (tp : ∀ q ∈ tl, q.2.cls = .type "tuple") (dv : DatIn (tl ++ rest) v d) :
    Got rest tl ins ins' cs' ns ns [] v (.leaf d) n where
  nu := (List.append_nil _).symm
  ia := ia
  il := il
  tp := tp
  dv := dv
  du := by rw [Ex.dat, h.refs]; exact .nil
  ok := h.leaf
  gd := h.good.le (by omega)
  zz := by have := h.sz; have : 0 < 3 ^ n := Nat.pow_pos (by decide); rw [Ex.dat]; omega
mutual
theorem length_refs : ∀ d : Dat, (refs d).length ≤ sz d
  | .tuple ds => by
    have := length_refss ds
    rw [refs, sz, List.length_append]
    split <;> simp only [List.length_cons, List.length_nil] <;> omega
  | .none | .bool _ | .int _ | .str _ | .bytes _ | .list _ => by simp [refs]
theorem length_refss : ∀ ds : List Dat, (refss ds).length ≤ szs ds
  | [] => by simp [refss]
  | d :: ds => by
    have := length_refs d
    have := length_refss ds
    rw [refss, szs, List.length_append]; omega
end
theorem refs_neg (d : Dat) : refs (.tuple [.str (Str.ofString "neg"), d]) = refs d := by
  rw [refs, isRefD_ne (by simp)]; simp [refss, refs]
theorem refs_add (a b : Dat) : refs (.tuple [.str (Str.ofString "+"), a, b]) = refs a ++ refs b := by
  rw [refs, isRefD_ne (by simp)]; simp [refss, refs]
theorem szs_one {B : Nat} {es : List Ex} (h : ∀ e ∈ es, sz e.dat + 4 ≤ B) (hl : es.length ≤ 1) : szs (es.map Ex.dat) ≤ B := by
  match es, hl with
  | [], _ => simp [szs]
  | [a], _ => have := h a (by simp); simp only [List.map_cons, List.map_nil, szs]; omega
theorem szs_two {B : Nat} {es : List Ex} (h : ∀ e ∈ es, sz e.dat + 4 ≤ B) (hl : es.length ≤ 2) (hB : 9 ≤ B) : szs (es.map Ex.dat) + 8 ≤ 2 * B := by
  match es, hl with
  | [], _ => simp [szs]; omega
  | [a], _ => have := h a (by simp); simp only [List.map_cons, List.map_nil, szs]; omega
  | [a, b], _ => have := h a (by simp); have := h b (by simp); simp only [List.map_cons, List.map_nil, szs]; omega
theorem refss_append : ∀ a b : List Dat, refss (a ++ b) = refss a ++ refss b
  | [], b => by simp [refss]
  | d :: a, b => by simp only [List.cons_append, refss, refss_append a b, List.append_assoc]
/-- what stands in the ledger while the rows of a reference are made -/
def RowsIn (C T Nn : Addr) (ck tk m : Nat) (ns : List Value) (inl : Nat) (R0 rest : Ledger) (i : Nat) (ys : List Value) (nw : Ledger) : Prop :=
  ∃ (tl : Ledger) (us : List Value) (es : List Ex) (cs : List Value) (ins : List Int) (k : Int) (kt : Tok) (nk : Nat), nw = (C, lstO cs ck) :: (T, lstO [.ref C, .int k kt] tk) :: (Nn, lstO (ns ++ us) nk) :: (tl ++ R0) ∧ (∀ q ∈ tl, q.2.cls = .type "tuple") ∧ IntsAre cs ins ∧ ins.length = inl ∧
    DatAll (tl ++ rest) ys (es.map Ex.dat) ∧ DatAll (tl ++ rest) us (refss (es.map Ex.dat)) ∧ es.length = i ∧ (∀ e ∈ es, e.Ok ∧ Good 0 1 (2 * m + 2) e.dat) ∧ (∀ e ∈ es, sz e.dat + 4 ≤ 9 * 3 ^ m)
theorem refss_strs : ∀ gs : List Str, refss (gs.map Dat.str) = []
  | [] => rfl
  | _ :: gs => by simp only [List.map_cons, refss, refs, refss_strs gs, List.nil_append]
theorem szs_strs : ∀ gs : List Str, szs (gs.map Dat.str) = gs.length
  | [] => rfl
  | _ :: gs => by simp only [List.map_cons, szs, sz, szs_strs gs, List.length_cons]; omega
theorem refs_ref {who : Str} {gs : List Str} {rows : List Dat} {part : Dat} (hg : gs.length ≤ 4) (hr : rows.length ≤ 4) :
    refs (.tuple [.str (Str.ofString "ref"), .str who, .tuple (gs.map Dat.str), .tuple rows, part]) = .tuple [.str (Str.ofString "ref"), .str who, .tuple (gs.map Dat.str), .tuple rows, part] :: (refss rows ++ refs part) := by
  rw [refs, ref_true, if_pos rfl]
  simp only [refss, refs, refss_strs]
  rw [isRefD_ne (by rw [List.length_map]; omega), isRefD_ne (by omega)]
  simp
theorem Got.ref {rest tl : Ledger} {ins ins' : List Int} {cs' ns ns' us : List Value} {v : Value} {who : Str} {gs : List Str} {es : List Ex} {part : Dat} {m : Nat} (hw : Who who) (hg : gs.length ≤ 1) (hel : es.length ≤ 2) (hok : ∀ e ∈ es, e.Ok ∧ Good 0 1 (2 * m + 2) e.dat)
    (hsz : ∀ e ∈ es, sz e.dat + 4 ≤ 9 * 3 ^ m) (hp : Good 0 1 (2 * m + 3) part) (hps : sz part + 2 ≤ 9 * 3 ^ m) (nu : ns' = ns ++ v :: us) (ia : IntsAre cs' ins') (il : ins'.length = ins.length) (tp : ∀ q ∈ tl, q.2.cls = .type "tuple")
    (dv : DatIn (tl ++ rest) v (.tuple [.str (Str.ofString "ref"), .str who, .tuple (gs.map Dat.str), .tuple (es.map Ex.dat), part])) (du : DatAll (tl ++ rest) us (refss (es.map Ex.dat) ++ refs part)) :
    Got rest tl ins ins' cs' ns ns' (v :: us) v (.leaf (.tuple [.str (Str.ofString "ref"), .str who, .tuple (gs.map Dat.str), .tuple (es.map Ex.dat), part])) (m + 1) where
  nu := nu
  ia := ia
  il := il
  tp := tp
  dv := dv
  du := by rw [Ex.dat, refs_ref (by omega) (by rw [List.length_map]; omega)]; exact .cons dv du
  ok := ⟨⟨_, _, rfl, .ref, by simp⟩, .ref _ _ _ _ hw⟩
  gd := by
    refine .inr ⟨_, rfl, by simp, ?_, fun _ => ⟨who, gs, _, _, rfl, hw, by omega, hg, by rw [List.length_map]; omega⟩⟩
    refine List.forall_mem_cons.mpr ⟨good_atom (.str _), List.forall_mem_cons.mpr ⟨good_atom (.str _), List.forall_mem_cons.mpr ⟨?_, List.forall_mem_cons.mpr ⟨?_, List.forall_mem_cons.mpr ⟨hp.le (by omega), fun _ h => nomatch h⟩⟩⟩⟩⟩
    · refine .inr ⟨_, rfl, by rw [List.length_map]; omega, fun e he => ?_, fun h => by rw [List.length_map] at h; omega⟩
      obtain ⟨x, _, rfl⟩ := List.mem_map.mp he
      exact good_atom (.str _)
    · refine .inr ⟨_, rfl, by rw [List.length_map]; omega, fun e he => ?_, fun h => by rw [List.length_map] at h; omega⟩
      obtain ⟨x, hx, rfl⟩ := List.mem_map.mp he
      exact (hok x hx).2.le (by omega)
  zz := by
    have hq : 0 < 3 ^ m := Nat.pow_pos (by decide)
    have z := szs_two hsz hel (by omega)
    have hp : 9 * 3 ^ (m + 1) = 3 * (9 * 3 ^ m) := by rw [Nat.pow_succ]; omega
    rw [Ex.dat]; simp only [Mine.sz, szs, szs_strs]; omega
theorem memg {q x y p : Addr × Obj} {tg b r : Ledger} (h : q ∈ tg ++ [y]) : q ∈ ((x :: y :: p :: tg) ++ b) ++ r := by
  simp only [List.mem_append, List.mem_cons, List.not_mem_nil, or_false] at h ⊢; grind
theorem memg1 {q x y : Addr × Obj} {tg b r : Ledger} (h : q ∈ tg ++ [y]) : q ∈ ((x :: y :: tg) ++ b) ++ r := by
  simp only [List.mem_append, List.mem_cons, List.not_mem_nil, or_false] at h ⊢; grind
theorem mema {q d : Addr × Obj} {a b tl r : Ledger} (h : q ∈ tl ++ r) : q ∈ (a ++ (b ++ ([d] ++ tl))) ++ r := by
  simp only [List.mem_append] at h ⊢; grind
theorem memb {q d : Addr × Obj} {a tl r : Ledger} (h : q ∈ tl ++ r) : q ∈ (a ++ ([d] ++ tl)) ++ r := by
  simp only [List.mem_append] at h ⊢; grind
theorem memc {q : Addr × Obj} {a b r : Ledger} (h : q ∈ b ++ r) : q ∈ (a ++ b) ++ r := by
  simp only [List.mem_append] at h ⊢; grind
theorem refs_part (d : Dat) : refs (.tuple [d, .none]) = refs d := by
  rw [refs, isRefD_ne (by simp)]; simp [refss, refs]
theorem news_law {h₀ h : Heap} {L : Addr} {c1 c2 c3 a b n : Addr × Obj} {r : Ledger} (N : News h₀ L h (c1 :: c2 :: c3 :: a :: b :: n :: r)) : News h₀ L h (a :: b :: n :: ([] ++ (c1 :: c2 :: c3 :: r))) := news_sub N fun q hq => by simp only [List.mem_cons, List.nil_append] at hq ⊢; grind
theorem news_back (a : Ledger) {h₀ h : Heap} {L : Addr} {x y z : Addr × Obj} {tl r : Ledger} (N : News h₀ L h (a ++ x :: y :: z :: (tl ++ r))) : News h₀ L h (x :: y :: z :: ((a ++ tl) ++ r)) := news_sub N fun q hq => by simp only [List.mem_cons, List.mem_append] at hq ⊢; grind
theorem off_of {h₀ h : Heap} {L : Addr} {cs ts ns : List Value} {ck tk nk : Nat} {C T Nn : Addr} {tl r : Ledger} (N : News h₀ L h ((C, lstO cs ck) :: (T, lstO ts tk) :: (Nn, lstO ns nk) :: (tl ++ r))) (ht : ∀ q ∈ tl, q.2.cls = .type "tuple")
    (h1 : ∀ q ∈ r, q.1 ≠ C) (h2 : ∀ q ∈ r, q.1 ≠ T) (h3 : ∀ q ∈ r, q.1 ≠ Nn) : (∀ q ∈ tl ++ r, q.1 ≠ C) ∧ (∀ q ∈ tl ++ r, q.1 ≠ T) ∧ (∀ q ∈ tl ++ r, q.1 ≠ Nn) := by
  have up : ∀ {q}, q ∈ tl ++ r → q ∈ (C, lstO cs ck) :: (T, lstO ts tk) :: (Nn, lstO ns nk) :: (tl ++ r) := fun h => List.mem_cons_of_mem _ (List.mem_cons_of_mem _ (List.mem_cons_of_mem _ h))
  refine ⟨fun q hq => ?_, fun q hq => ?_, fun q hq => ?_⟩
  · exact (List.mem_append.mp hq).elim (fun h => news_ne N (a := q.1) (o1 := q.2) (up hq) List.mem_cons_self (by rw [ht q h]; exact tup_ne_list)) (h1 q)
  · exact (List.mem_append.mp hq).elim (fun h => news_ne N (a := q.1) (o1 := q.2) (up hq) (List.mem_cons_of_mem _ List.mem_cons_self) (by rw [ht q h]; exact tup_ne_list)) (h2 q)
  · exact (List.mem_append.mp hq).elim (fun h => news_ne N (a := q.1) (o1 := q.2) (up hq) (List.mem_cons_of_mem _ (List.mem_cons_of_mem _ List.mem_cons_self)) (by rw [ht q h]; exact tup_ne_list)) (h3 q)

local macro_rules | `(tactic| walk_at "exec If") => `(tactic| ((fail_if_success (rename Passed => hq9)); (with_reducible show wpAny _ _ (exec (Stmt.If (Expr.BoolOp _ _ _) _ _ _) _) _ _ _); refine stop_here ?_))
local macro_rules | `(tactic| walk_at "execs cons") => `(tactic| ((with_reducible rename HeldAll _ => hf9); with_reducible exact HeldAll.at hf9 _))
local macro_rules | `(tactic| walk_at "subscriptTail") => `(tactic| ((with_reducible show wpAny _ _ (subscriptTail _ _ (Value.ref _) (Value.int (Nat.cast _) _)) _ _ _); k_dflt (refine' m_noted ?zN ?zm ?zz ?_ ?zb; (case zN => k_asm); (case zm => k_mem); (case zz => ((try simp only [List.length_append]); omega)); (case zb => with_unfolding_all rfl); k_whole)))
section
variable {w : World} {p : Program} {loose : List Str} {mean : ExcName → Option Value} {mg mb : Str → Option Value}
theorem c_expr : ∀ (n : Nat) {dp un : Nat} {fr : Option (List Env)} {gd : Option (List Code)} {s : Shared} {h₀ : Heap} {Q E : Value → Shared → Prop}
    {C T Nn : Addr} {cs ns : List Value} {ins : List Int} {ck tz nk : Nat} {k i : Int} {kt it : Tok} {rest : Ledger},
    (Mine.hd.heap_1 w.params).In h₀ → Top p loose mean mg mb h₀ → Led h₀ s.heap ((C, lstO cs ck) :: (T, lstO [.ref C, .int k kt] tz) :: (Nn, lstO ns nk) :: rest) → dp + 10 * n + 50 < recursionLimit → un + 100 * n + 300 < cLine →
    (∀ q ∈ rest, q.1 ≠ C) → (∀ q ∈ rest, q.1 ≠ T) → (∀ q ∈ rest, q.1 ≠ Nn) → C ≠ T → C ≠ Nn → T ≠ Nn → IntsAre cs ins → 0 < ins.length → ins.length ≤ 100 → ns.length + 9 * 3 ^ n ≤ 90000 → i = (n : Int) →
    (∀ v e cs' ins' k' kt' ns' us nk' tl h' tz', Step s.heap h' ((C, lstO cs ck) :: (T, lstO [.ref C, .int k kt] tz) :: (Nn, lstO ns nk) :: rest) ((C, lstO cs' ck) :: (T, lstO [.ref C, .int k' kt'] tz) :: (Nn, lstO ns' nk') :: (tl ++ rest)) → 
      Got rest tl ins ins' cs' ns ns' us v e n → Q v { s with heap := h', toks := tz' }) →
    wpAny (model PySem.Challenge.rw_pb0239_01.row.prog w) (ar dp un fr gd) (call (.ref 198) [.ref T, .int i it, .ref Nn]) Q E s := by
  intro n
  induction n using Nat.strongRecOn with
  | ind n ih =>
    intro dp un fr gd s h₀ Q E C T Nn cs ns ins ck tz nk k i kt it rest X Tp D hd hu offC offT offN hCT hCN hTN hi hn0 hn1 hz hin ret
    walk_at "my enterC"
    walk_at "my steps"
    rename_i g L' h1 tk1 F1 X' T' lt1 oa ob oc da db dc N1
    replace N1 := news_law N1
    replace da : oa.data = .cell (some (.ref Nn)) := da
    replace db : ob.data = .cell (some (.int i it)) := db
    replace dc : oc.data = .cell (some (.ref T)) := dc
    have o1 : ∀ q ∈ (L' + 1 + 1 + 1, oa) :: (L' + 1 + 1, ob) :: (L' + 1, oc) :: rest, q.1 ≠ C := by
      have := lt1 (C, lstO cs ck) List.mem_cons_self
      dsimp only at this
      exact List.forall_mem_cons.mpr ⟨Nat.ne_of_gt (Nat.lt_succ_of_lt (Nat.lt_succ_of_lt (Nat.lt_succ_of_lt this))), List.forall_mem_cons.mpr ⟨Nat.ne_of_gt (Nat.lt_succ_of_lt (Nat.lt_succ_of_lt this)), List.forall_mem_cons.mpr ⟨Nat.ne_of_gt (Nat.lt_succ_of_lt this), offC⟩⟩⟩
    have o2 : ∀ q ∈ (L' + 1 + 1 + 1, oa) :: (L' + 1 + 1, ob) :: (L' + 1, oc) :: rest, q.1 ≠ T := by
      have := lt1 (T, lstO [.ref C, .int k kt] tz) (List.mem_cons_of_mem _ List.mem_cons_self)
      dsimp only at this
      exact List.forall_mem_cons.mpr ⟨Nat.ne_of_gt (Nat.lt_succ_of_lt (Nat.lt_succ_of_lt (Nat.lt_succ_of_lt this))), List.forall_mem_cons.mpr ⟨Nat.ne_of_gt (Nat.lt_succ_of_lt (Nat.lt_succ_of_lt this)), List.forall_mem_cons.mpr ⟨Nat.ne_of_gt (Nat.lt_succ_of_lt this), offT⟩⟩⟩
    have o3 : ∀ q ∈ (L' + 1 + 1 + 1, oa) :: (L' + 1 + 1, ob) :: (L' + 1, oc) :: rest, q.1 ≠ Nn := by
      have := lt1 (Nn, lstO ns nk) (List.mem_cons_of_mem _ (List.mem_cons_of_mem _ List.mem_cons_self))
      dsimp only at this
      exact List.forall_mem_cons.mpr ⟨Nat.ne_of_gt (Nat.lt_succ_of_lt (Nat.lt_succ_of_lt (Nat.lt_succ_of_lt this))), List.forall_mem_cons.mpr ⟨Nat.ne_of_gt (Nat.lt_succ_of_lt (Nat.lt_succ_of_lt this)), List.forall_mem_cons.mpr ⟨Nat.ne_of_gt (Nat.lt_succ_of_lt this), offN⟩⟩⟩
    have oK2 := off_of N1 (fun _ h => nomatch h) o1 o2 o3
    refine c_draw X' T' (Led.of F1 N1) (roomC (x := dp) hd rfl) (roomC0 (x := un) hu rfl) (List.forall_mem_cons.mpr ⟨hCN.symm, oK2.1⟩) (List.forall_mem_cons.mpr ⟨hTN.symm, oK2.2.1⟩) hCT hi hn0 hn1 (by decide) (by decide) fun r2 t2 cs2 ins2 k2 kt2 h2 tk2 S2 hi2 hl2 hr2 hs2 => ?_
    obtain ⟨F2, N2⟩ := S2.fr F1 N1
    clear F1 N1 S2
    have hx2 : 0 < ins2.length := by rw [hl2]; exact hn0
    have hy2 : ins2.length ≤ 100 := by rw [hl2]; exact hn1
    walk_at "my steps"
    unfold Stop
    refine if_once (fun tkL => ?_) (fun hleaf => ?_)
    · walk_at "my steps"
      rename Fr _ _ _ _ => F3
      rename News _ _ _ _ => N3
      have oK4 := off_of N3 (fun _ h => nomatch h) o1 o2 o3
      refine c_draw X' T' (Led.of F3 N3) (roomC (x := dp) hd rfl) (roomC0 (x := un) hu rfl) (List.forall_mem_cons.mpr ⟨hCN.symm, oK4.1⟩) (List.forall_mem_cons.mpr ⟨hTN.symm, oK4.2.1⟩) hCT hi2 hx2 hy2 (by decide) (by decide) fun r4 t4 cs4 ins4 k4 kt4 h4 tk4 S4 hi4 hl4 hr4 hs4 => ?_
      obtain ⟨F4, N4⟩ := S4.fr F3 N3
      clear F3 N3 S4
      have hx4 : 0 < ins4.length := by rw [hl4]; exact hx2
      have hy4 : ins4.length ≤ 100 := by rw [hl4]; exact hy2
      walk_at "my steps"
      rename Fr _ _ _ _ => F5
      rename News _ _ _ _ => N5
      replace N5 := news_back [_, _, _, _, _] N5
      have oK6 := off_of N5 (tp_cons rfl (tp_cons rfl (tp_cons rfl (tp_cons rfl (tp_cons rfl tp_nil))))) o1 o2 o3
      refine c_draw X' T' (Led.of F5 N5) (roomC (x := dp) hd rfl) (roomC0 (x := un) hu rfl) (List.forall_mem_cons.mpr ⟨hCN.symm, oK6.1⟩) (List.forall_mem_cons.mpr ⟨hTN.symm, oK6.2.1⟩) hCT hi4 hx4 hy4 (by decide) (by decide) fun r6 t6 cs6 ins6 k6 kt6 h6 tk6 S6 hi6 hl6 hr6 hs6 => ?_
      obtain ⟨F6, N6⟩ := S6.fr F5 N5
      clear F5 N5 S6
      have hx6 : 0 < ins6.length := by rw [hl6]; exact hx4
      have hy6 : ins6.length ≤ 100 := by rw [hl6]; exact hy4
      walk_at "my steps"
      rename Fr _ _ _ _ => F7
      rename News _ _ _ _ => N7
      refine m_pick N7 (List.mem_cons_of_mem _ (List.mem_cons_of_mem _ (List.mem_cons_of_mem _ List.mem_cons_self))) hr6 hs6 (by simp) (fun v hv => ?_) (by with_unfolding_all rfl)
      simp only [List.mem_cons, List.not_mem_nil, or_false] at hv
      rcases hv with rfl | rfl | rfl
      all_goals walk_at "my steps"
      · exact Back.mk F7 (news_end N7) fun S => ret _ _ _ _ _ _ _ _ _ _ _ _ S (Got.leaf (.number r4) hi6 (by omega) (tp_app (tp_cons rfl (tp_cons rfl (tp_cons rfl (tp_cons rfl (tp_cons rfl tp_nil))))) tp_nil) (.tuple (by k_mem) (.cons (.str _ _) (.cons (.tuple (by k_mem) (.cons (.int _ _) (.cons (.int _ _) .nil))) .nil))))
      · exact Back.mk F7 (news_end N7) fun S => ret _ _ _ _ _ _ _ _ _ _ _ _ S (Got.leaf .text hi6 (by omega) (tp_app (tp_cons rfl (tp_cons rfl (tp_cons rfl (tp_cons rfl (tp_cons rfl tp_nil))))) tp_nil) (.tuple (by k_mem) (.cons (.str _ _) (.cons (.bytes _ _) .nil))))
      · exact Back.mk F7 (news_end N7) fun S => ret _ _ _ _ _ _ _ _ _ _ _ _ S (Got.leaf .figure hi6 (by omega) (tp_app (tp_cons rfl (tp_cons rfl (tp_cons rfl (tp_cons rfl (tp_cons rfl tp_nil))))) tp_nil) (.tuple (by k_mem) (.cons (.str _ _) (.cons (.str _ _) .nil))))
    have hpass : Passed := ⟨⟩
    walk_at "my steps"
    · rename Fr _ _ _ _ => F3
      rename News _ _ _ _ => N3
      obtain ⟨m, rfl⟩ : ∃ m, n = m + 1 := ⟨n - 1, by omega⟩
      have hp : 9 * 3 ^ (m + 1) = 3 * (9 * 3 ^ m) := by rw [Nat.pow_succ]; omega
      have hq : 0 < 3 ^ m := Nat.pow_pos (by decide)
      have oK4 := off_of N3 tp_nil o1 o2 o3
      refine ih m (Nat.lt_succ_self m) X' T' (Led.of F3 N3) (roomS (x := dp) hd rfl) (roomK (x := un) hu rfl) oK4.1 oK4.2.1 oK4.2.2 hCT hCN hTN hi2 hx2 hy2 (by omega) (by omega) fun v4 e4 cs4 ins4 k4 kt4 ns4 us4 nk4 tl4 h4 tk4 S4 G4 => ?_
      obtain ⟨F4, N4⟩ := S4.fr F3 N3
      clear F3 N3 S4
      replace N4 := news_asc N4
      have hl4 := G4.il
      have hx4 : 0 < ins4.length := by rw [hl4]; exact hx2
      have hy4 : ins4.length ≤ 100 := by rw [hl4]; exact hy2
      have hi4 := G4.ia
      walk_at "my steps"
      rename Fr _ _ _ _ => F5
      rename News _ _ _ _ => N5
      replace N5 := news_back [_] N5
      have dv4 := DatIn.only (only_cells da db dc) G4.dv
      have du4 := DatAll.only (only_cells da db dc) G4.du
      exact Back.mk F5 (news_end N5) fun S => ret _ (.neg e4) _ _ _ _ _ _ _ _ _ _ S ⟨G4.nu, G4.ia, by omega, tp_app (tp_cons rfl tp_nil) (tp_app G4.tp tp_nil), .tuple (by k_mem) (.cons (.str _ _) (.cons (dv4.mono fun q hq => List.mem_cons_of_mem _ hq) .nil)),
        by rw [Ex.dat, refs_neg]; exact du4.mono fun q hq => List.mem_cons_of_mem _ hq, G4.ok, (good_two (good_atom (.str _)) G4.gd).le (by omega), by have := G4.zz; rw [Ex.dat]; simp only [sz, szs]; omega⟩
    · rename Fr _ _ _ _ => F3
      rename News _ _ _ _ => N3
      obtain ⟨m, rfl⟩ : ∃ m, n = m + 1 := ⟨n - 1, by omega⟩
      have hp : 9 * 3 ^ (m + 1) = 3 * (9 * 3 ^ m) := by rw [Nat.pow_succ]; omega
      have hq : 0 < 3 ^ m := Nat.pow_pos (by decide)
      have oK4 := off_of N3 tp_nil o1 o2 o3
      refine ih m (Nat.lt_succ_self m) X' T' (Led.of F3 N3) (roomS (x := dp) hd rfl) (roomK (x := un) hu rfl) oK4.1 oK4.2.1 oK4.2.2 hCT hCN hTN hi2 hx2 hy2 (by omega) (by omega) fun v4 e4 cs4 ins4 k4 kt4 ns4 us4 nk4 tl4 h4 tk4 S4 G4 => ?_
      obtain ⟨F4, N4⟩ := S4.fr F3 N3
      clear F3 N3 S4
      replace N4 := news_asc N4
      have hl4 := G4.il
      have hx4 : 0 < ins4.length := by rw [hl4]; exact hx2
      have hy4 : ins4.length ≤ 100 := by rw [hl4]; exact hy2
      have hi4 := G4.ia
      walk_at "my steps"
      rename Fr _ _ _ _ => F5
      rename News _ _ _ _ => N5
      have z4 := G4.zz
      have y4 := length_refs e4.dat
      have x4 := G4.du.length
      have w4 := congrArg List.length G4.nu
      rw [List.length_append] at w4
      have oK6 := off_of N5 (tp_app G4.tp tp_nil) o1 o2 o3
      refine ih m (Nat.lt_succ_self m) X' T' (Led.of F5 N5) (roomS (x := dp) hd rfl) (roomK (x := un) hu rfl) oK6.1 oK6.2.1 oK6.2.2 hCT hCN hTN hi4 hx4 hy4 (by omega) (by omega) fun v6 e6 cs6 ins6 k6 kt6 ns6 us6 nk6 tl6 h6 tk6 S6 G6 => ?_
      obtain ⟨F6, N6⟩ := S6.fr F5 N5
      clear F5 N5 S6
      replace N6 := news_asc N6
      have hl6 := G6.il
      have hx6 : 0 < ins6.length := by rw [hl6]; exact hx4
      have hy6 : ins6.length ≤ 100 := by rw [hl6]; exact hy4
      have hi6 := G6.ia
      walk_at "my steps"
      rename Fr _ _ _ _ => F7
      rename News _ _ _ _ => N7
      replace N7 := news_back [_] N7
      have dv4 := DatIn.right (nw := tl6) (DatIn.only (only_cells da db dc) G4.dv)
      have du4 := DatAll.right (nw := tl6) (DatAll.only (only_cells da db dc) G4.du)
      have dv6 := DatIn.only (only_cells da db dc) G6.dv
      have du6 := DatAll.only (only_cells da db dc) G6.du
      have z6 := G6.zz
      have e7 : ns6 = ns ++ (us4 ++ us6) := by rw [G6.nu, G4.nu, List.append_assoc]
      exact Back.mk F7 (news_end N7) fun S => ret _ (.add e4 e6) _ _ _ _ _ _ _ _ _ _ S ⟨e7, G6.ia, by omega, tp_app (tp_cons rfl tp_nil) (tp_app G6.tp (tp_app G4.tp tp_nil)), .tuple (by k_mem) (.cons (.str _ _) (.cons (dv4.mono fun q hq => List.mem_cons_of_mem _ (by simpa using hq)) (.cons (dv6.mono fun q hq => List.mem_cons_of_mem _ hq) .nil))),
        by rw [Ex.dat, refs_add]; exact (du4.mono fun q hq => List.mem_cons_of_mem _ (by simpa using hq)).append (du6.mono fun q hq => List.mem_cons_of_mem _ hq), ⟨G4.ok, G6.ok⟩, (good_three (good_atom (.str _)) G4.gd G6.gd).le (by omega), by rw [Ex.dat]; simp only [sz, szs]; omega⟩
    · rename Fr _ _ _ _ => F3
      rename News _ _ _ _ => N3
      obtain ⟨m, rfl⟩ : ∃ m, n = m + 1 := ⟨n - 1, by omega⟩
      have hp : 9 * 3 ^ (m + 1) = 3 * (9 * 3 ^ m) := by rw [Nat.pow_succ]; omega
      have hq : 0 < 3 ^ m := Nat.pow_pos (by decide)
      have oK4 := off_of N3 tp_nil o1 o2 o3
      refine c_draw X' T' (Led.of F3 N3) (roomC (x := dp) hd rfl) (roomC0 (x := un) hu rfl) (List.forall_mem_cons.mpr ⟨hCN.symm, oK4.1⟩) (List.forall_mem_cons.mpr ⟨hTN.symm, oK4.2.1⟩) hCT hi2 hx2 hy2 (by decide) (by decide) fun r4 t4 cs4 ins4 k4 kt4 h4 tk4 S4 hi4 hl4 hr4 hs4 => ?_
      obtain ⟨F4, N4⟩ := S4.fr F3 N3
      clear F3 N3 S4
      have hx4 : 0 < ins4.length := by rw [hl4]; exact hx2
      have hy4 : ins4.length ≤ 100 := by rw [hl4]; exact hy2
      walk_at "my steps"
      refine m_lenL N4 (by k_mem) (by omega) ?_
      walk_at "my steps"
      rename Fr _ _ _ _ => F5
      rename News _ _ _ _ => N5
      rw [List.push_toArray] at N5
      replace N5 := news_back [_] N5
      have oK6 := off_of N5 (tp_cons rfl tp_nil) o1 o2 o3
      refine c_draw X' T' (Led.of F5 N5) (roomC (x := dp) hd rfl) (roomC0 (x := un) hu rfl) (List.forall_mem_cons.mpr ⟨hCN.symm, oK6.1⟩) (List.forall_mem_cons.mpr ⟨hTN.symm, oK6.2.1⟩) hCT hi4 hx4 hy4 (by decide) (by decide) fun r6 t6 cs6 ins6 k6 kt6 h6 tk6 S6 hi6 hl6 hr6 hs6 => ?_
      obtain ⟨F6, N6⟩ := S6.fr F5 N5
      clear F5 N5 S6
      have hx6 : 0 < ins6.length := by rw [hl6]; exact hx4
      have hy6 : ins6.length ≤ 100 := by rw [hl6]; exact hy4
      walk_at "my steps"
      rename Fr _ _ _ _ => F7
      rename News _ _ _ _ => N7
      rename IsRange _ _ _ _ _ _ _ _ => ir
      rw [← List.append_nil (ns ++ [Value.none])] at N7
      obtain ⟨nr, rfl⟩ := Int.eq_ofNat_of_zero_le hr6
      refine iter_range (R := RowsIn C T Nn ck tz m (ns ++ [.none]) ins.length ((L' + 1 + 1 + 1, oa) :: (L' + 1 + 1, ob) :: (L' + 1, oc) :: rest) rest) rfl F7 N7 ir (by omega) ⟨_, [], [], _, _, _, _, _, rfl, tp_app (tp_cons rfl tp_nil) tp_nil, hi6, by omega, .nil, .nil, rfl, by simp, by simp⟩ ?_ ?_
      · rintro Cc i v ys nw s₃ m₃ hC hyl hilt ⟨tl, us, es, cs8, ins8, k8, kt8, nk8, rfl, tp8, hi8, hl8, hys, hus, hel, hok, hsz⟩ hn hm3 F8 N8 hCn hCL
        have z8 := szs_one hsz (by omega)
        have y8 := length_refss (es.map Ex.dat)
        have x8 := hus.length
        have q8 : (ns ++ [Value.none] ++ us).length = ns.length + 1 + us.length := by simp only [List.length_append, List.length_singleton]
        walk_at "my steps"
        have oK9 := off_of N8 tp8 o1 o2 o3
        refine ih m (Nat.lt_succ_self m) X' T' (Led.of F8 N8) (roomS (x := dp) hd rfl) (roomK (x := un) hu rfl) oK9.1 oK9.2.1 oK9.2.2 hCT hCN hTN hi8 (by rw [hl8]; exact hn0) (by rw [hl8]; exact hn1) (by omega) (by omega) fun v9 e9 cs9 ins9 k9 kt9 ns9 us9 nk9 tl9 h9 tk9 S9 G9 => ?_
        k_unfold
        have dv9 := DatIn.only (only_cells da db dc) G9.dv
        have du9 := DatAll.only (only_cells da db dc) G9.du
        have e9' : ns9 = ns ++ [Value.none] ++ (us ++ us9) := by rw [G9.nu, List.append_assoc]
        refine ⟨h9, tk9, _, rfl, S9, tl9 ++ tl, us ++ us9, es ++ [e9], _, _, _, _, _, by rw [e9', List.append_assoc tl9], tp_app G9.tp tp8, G9.ia, by rw [G9.il]; exact hl8, ?_, ?_, by simp [hel], ?_, ?_⟩
        · rw [List.map_append]; exact DatAll.append (hys.mono fun q hq => by rw [List.append_assoc]; exact List.mem_append_right _ hq) (.one dv9)
        · rw [List.map_append, refss_append]; exact DatAll.append (hus.mono fun q hq => by rw [List.append_assoc]; exact List.mem_append_right _ hq) (by simpa [refss] using du9)
        · intro e he
          rcases List.mem_append.mp he with he | he
          · exact hok e he
          · rw [List.mem_singleton.mp he]; exact ⟨G9.ok, G9.gd⟩
        · intro e he
          rcases List.mem_append.mp he with he | he
          · exact hsz e he
          · rw [List.mem_singleton.mp he]; exact G9.zz
      · rintro Dl h8 tk8 ys nw kl hyl ⟨tl, us, es, cs8, ins8, k8, kt8, nk8, rfl, tp8, hi8, hl8, hys, hus, hel, hok, hsz⟩ F8 N8 hD
        clear F7 N7
        have z8 := szs_two hsz (by omega) (by omega)
        have y8 := length_refss (es.map Ex.dat)
        have x8 := hus.length
        have q8 : (ns ++ [Value.none] ++ us).length = ns.length + 1 + us.length := by simp only [List.length_append, List.length_singleton]
        walk_at "my steps"
        rename Fr _ _ _ _ => F9
        rename News _ _ _ _ => N9
        replace N9 := news_back [_] (news_drop2 N9)
        have oK10 := off_of N9 (tp_app (tp_cons rfl tp_nil) tp8) o1 o2 o3
        refine c_draw X' T' (Led.of F9 N9) (roomC (x := dp) hd rfl) (roomC0 (x := un) hu rfl) (List.forall_mem_cons.mpr ⟨hCN.symm, oK10.1⟩) (List.forall_mem_cons.mpr ⟨hTN.symm, oK10.2.1⟩) hCT hi8 (by rw [hl8]; exact hn0) (by rw [hl8]; exact hn1) (by decide) (by decide) fun r10 t10 cs10 ins10 k10 kt10 h10 tk10 S10 hi10 hl10 hr10 hs10 => ?_
        obtain ⟨F10, N10⟩ := S10.fr F9 N9
        clear F9 N9 S10
        have hx10 : 0 < ins10.length := by rw [hl10]; exact (by rw [hl8]; exact hn0)
        have hy10 : ins10.length ≤ 100 := by rw [hl10]; exact (by rw [hl8]; exact hn1)
        walk_at "my steps"
        · rename Fr _ _ _ _ => F11
          rename News _ _ _ _ => N11
          have oK12 := off_of N11 (tp_app (tp_cons rfl tp_nil) tp8) o1 o2 o3
          refine ih m (Nat.lt_succ_self m) X' T' (Led.of F11 N11) (roomS (x := dp) hd rfl) (roomK (x := un) hu rfl) oK12.1 oK12.2.1 oK12.2.2 hCT hCN hTN hi10 hx10 hy10 (by omega) (by omega) fun v12 e12 cs12 ins12 k12 kt12 ns12 us12 nk12 tl12 h12 tk12 S12 G12 => ?_
          obtain ⟨F12, N12⟩ := S12.fr F11 N11
          clear F11 N11 S12
          replace N12 := news_asc N12
          have hl12 := G12.il
          have hx12 : 0 < ins12.length := by rw [hl12]; exact hx10
          have hy12 : ins12.length ≤ 100 := by rw [hl12]; exact hy10
          have hi12 := G12.ia
          walk_at "my steps"
          rename Fr _ _ _ _ => F13
          rename News _ _ _ _ => N13
          refine m_gcut F13 N13 List.mem_cons_self hr2 (by omega) (fun Dg h14 tg gs kg F14 N14 tpg hmg hgs => ?_) (by with_unfolding_all rfl) (by intro _; with_unfolding_all rfl)
          clear F13 N13
          walk_at "my steps"
          rename Fr _ _ _ _ => F15
          rename News _ _ _ _ => N15
          replace N15 := news_asc (news_g N15)
          have e15 : ns12 = ns ++ [Value.none] ++ (us ++ us12) := by rw [G12.nu, List.append_assoc]
          rw [e15] at N15
          have z12 := G12.zz
          have y12 := length_refs e12.dat
          have x12 := G12.du.length
          have oK15 := off_of N15 (tp_app (tp_cons rfl (tp_cons rfl (tp_cons rfl tpg))) (tp_app G12.tp (tp_app (tp_cons rfl tp_nil) tp8))) o1 o2 o3
          refine m_note F15 (news_rot3 N15) (List.forall_mem_cons.mpr ⟨hCN, List.forall_mem_cons.mpr ⟨hTN, oK15.2.2⟩⟩) (by (try simp only [List.length_append]); omega) fun h16 F16 N16 => ?_
          clear F15 N15
          replace N16 := news_rot3 (news_rot3 N16)
          walk_at "my steps"
          rename Fr _ _ _ _ => F17
          refine Back.mk F17 (news_end N16) fun S => ?_
          obtain ⟨gd9, hgd1, hgd⟩ := gs_dat (news := []) hgs
          exact ret _ _ _ _ _ _ _ _ _ _ _ _ S (Got.ref (part := .tuple [e12.dat, .none]) (who_of hr4 hs4) hgd1 (by omega) hok hsz (good_two G12.gd (good_atom .none)) (by simp only [sz, szs]; omega) rfl G12.ia (by omega) (tp_app (tp_cons rfl (tp_cons rfl (tp_cons rfl tpg))) (tp_app G12.tp (tp_app (tp_cons rfl tp_nil) tp8)))
            (.tuple (by k_mem) (.cons (.str _ _) (.cons (.str _ _) (.cons (.tuple (memg hmg) (hgd.mono (by simp))) (.cons (.tuple (by k_mem) (hys.mono fun _ h => mema h)) (.cons (.tuple (by k_mem) (.cons ((DatIn.only (only_cells da db dc) G12.dv).mono fun _ h => memc h) (.cons .none .nil))) .nil))))))
            (by rw [refs_part]; exact (hus.mono fun _ h => mema h).append ((DatAll.only (only_cells da db dc) G12.du).mono fun _ h => memc h)))
        · rename Fr _ _ _ _ => F13
          rename News _ _ _ _ => N13
          refine m_gcut F13 N13 List.mem_cons_self hr2 (by omega) (fun Dg h14 tg gs kg F14 N14 tpg hmg hgs => ?_) (by with_unfolding_all rfl) (by intro _; with_unfolding_all rfl)
          clear F13 N13
          walk_at "my steps"
          rename Fr _ _ _ _ => F15
          rename News _ _ _ _ => N15
          replace N15 := news_asc (news_g1 N15)
          have oK15 := off_of N15 (tp_app (tp_cons rfl (tp_cons rfl tpg)) (tp_app (tp_cons rfl tp_nil) tp8)) o1 o2 o3
          refine m_note F15 (news_rot3 N15) (List.forall_mem_cons.mpr ⟨hCN, List.forall_mem_cons.mpr ⟨hTN, oK15.2.2⟩⟩) (by (try simp only [List.length_append]); omega) fun h16 F16 N16 => ?_
          clear F15 N15
          replace N16 := news_rot3 (news_rot3 N16)
          walk_at "my steps"
          rename Fr _ _ _ _ => F17
          refine Back.mk F17 (news_end N16) fun S => ?_
          obtain ⟨gd9, hgd1, hgd⟩ := gs_dat (news := []) hgs
          exact ret _ _ _ _ _ _ _ _ _ _ _ _ S (Got.ref (part := .none) (who_of hr4 hs4) hgd1 (by omega) hok hsz (good_atom .none) (by simp only [sz, szs]; omega) rfl hi10 (by omega) (tp_app (tp_cons rfl (tp_cons rfl tpg)) (tp_app (tp_cons rfl tp_nil) tp8))
            (.tuple (by k_mem) (.cons (.str _ _) (.cons (.str _ _) (.cons (.tuple (memg1 hmg) (hgd.mono (by simp))) (.cons (.tuple (by k_mem) (hys.mono fun _ h => memb h)) (.cons .none .nil))))))
            (by rw [show refs Dat.none = [] from by simp [refs], List.append_nil]; exact hus.mono fun _ h => memb h))
end
end
section
inductive Cd where
  | one (a b : Ex)
  | two (a b c d : Ex)
noncomputable def relD (a b : Ex) : Dat := .tuple [.str (Str.ofString "rel"), .str (Str.ofString "<"), a.dat, b.dat]
noncomputable def Cd.dat : Cd → Dat
  | .one a b => relD a b
  | .two a b c d => .tuple [.str (Str.ofString "or"), relD a b, .tuple [.str (Str.ofString "not"), relD c d]]
noncomputable def Cd.exs : Cd → List Ex
  | .one a b => [a, b]
  | .two a b c d => [a, b, c, d]

theorem refs_rel (a b : Ex) : refs (relD a b) = refs a.dat ++ refs b.dat := by
  rw [relD, refs, isRefD_ne (by simp)]; simp [refss, refs]
theorem refs_two (a b c d : Ex) : refs (Cd.two a b c d).dat = refs a.dat ++ refs b.dat ++ (refs c.dat ++ refs d.dat) := by
  rw [Cd.dat, refs, isRefD_ne (by simp), if_neg Bool.false_ne_true]
  simp only [refss, refs_rel, List.nil_append, List.append_nil]
  rw [show refs (.str (Str.ofString "or")) = [] from by simp [refs], refs, isRefD_ne (by simp), if_neg Bool.false_ne_true]
  simp only [refss, refs_rel, List.nil_append, List.append_nil]
  rw [show refs (.str (Str.ofString "not")) = [] from by simp [refs]]
  simp
theorem range_ne_list : Value.type "range_iterator" ≠ Value.type "list" := by decide
theorem range_ne_tuple : Value.type "range_iterator" ≠ Value.type "tuple" := by decide
theorem it_off {h₀ h : Heap} {L : Addr} {I C T Nn : Addr} {o : Obj} {cs ts ns : List Value} {ck tk nk : Nat} {tl r : Ledger} (N : News h₀ L h ((I, o) :: (C, lstO cs ck) :: (T, lstO ts tk) :: (Nn, lstO ns nk) :: (tl ++ r))) (ho : o.cls = .type "range_iterator") (tp : ∀ q ∈ tl, q.2.cls = .type "tuple") (hr : ∀ q ∈ r, q.1 ≠ I) :
    I ∉ ((C, lstO cs ck) :: (T, lstO ts tk) :: (Nn, lstO ns nk) :: (tl ++ r)).map (·.1) := by
  intro q
  obtain ⟨p, hp, rfl⟩ := List.mem_map.mp q
  have hc : o.cls = p.2.cls := Classical.byContradiction fun e => news_ne N List.mem_cons_self (b := p.1) (o2 := p.2) (List.mem_cons_of_mem _ hp) e rfl
  rw [ho] at hc
  simp only [List.mem_cons, List.mem_append] at hp
  rcases hp with rfl | rfl | rfl | hp | hp
  · exact range_ne_list hc
  · exact range_ne_list hc
  · exact range_ne_list hc
  · rw [tp p hp] at hc; exact range_ne_tuple hc
  · exact hr p hp rfl
/-- what stands after i rounds of _law_cond's loop -/
def CondJ (C T Nn : Addr) (ck tz : Nat) (inl : Nat) (rest : Ledger) (i : Nat) (m : Str → Option Value) (nw : Ledger) : Prop :=
  ∃ (tl : Ledger) (us : List Value) (cs : List Value) (ins : List Int) (k : Int) (kt : Tok) (nk : Nat) (fv : Value), nw = (C, lstO cs ck) :: (T, lstO [.ref C, .int k kt] tz) :: (Nn, lstO us nk) :: (tl ++ rest) ∧ (∀ q ∈ tl, q.2.cls = .type "tuple") ∧ IntsAre cs ins ∧ ins.length = inl ∧
    m (Str.ofString "tape") = some (.ref T) ∧ m (Str.ofString "notes") = some (.ref Nn) ∧ m (Str.ofString "found") = some fv ∧
    ((i = 0 ∧ fv = .none ∧ us = []) ∨ (∃ a b, i = 1 ∧ DatIn (tl ++ rest) fv (relD a b) ∧ DatAll (tl ++ rest) us (refs a.dat ++ refs b.dat) ∧ ∀ x ∈ [a, b], x.Ok ∧ Good 0 1 6 x.dat ∧ sz x.dat + 4 ≤ 81) ∨
     (∃ a b c d, i = 2 ∧ DatIn (tl ++ rest) fv (Cd.two a b c d).dat ∧ DatAll (tl ++ rest) us (refs a.dat ++ refs b.dat ++ (refs c.dat ++ refs d.dat)) ∧ ∀ x ∈ [a, b, c, d], x.Ok ∧ Good 0 1 6 x.dat ∧ sz x.dat + 4 ≤ 81))
local macro_rules | `(tactic| walk_at "exec For Name Call cons nil") => `(tactic| refine stop_here ?_)
section
variable {w : World} {dp un : Nat} {fr : Option (List Env)} {gd : Option (List Code)} {s : Shared} {h₀ : Heap} {p : Program} {loose : List Str} {mean : ExcName → Option Value} {mg mb : Str → Option Value} {Q E : Value → Shared → Prop}
theorem c_cond {C T Nn : Addr} {cs : List Value} {ins : List Int} {ck tz nk : Nat} {k : Int} {kt : Tok} {rest : Ledger} (X : (Mine.hd.heap_1 w.params).In h₀) (Tp : Top p loose mean mg mb h₀) (D : Led h₀ s.heap ((C, lstO cs ck) :: (T, lstO [.ref C, .int k kt] tz) :: (Nn, lstO [] nk) :: rest))
    (hd : dp + 100 < recursionLimit) (hu : un + 700 < cLine) (offC : ∀ q ∈ rest, q.1 ≠ C) (offT : ∀ q ∈ rest, q.1 ≠ T) (offN : ∀ q ∈ rest, q.1 ≠ Nn) (hCT : C ≠ T) (hCN : C ≠ Nn) (hTN : T ≠ Nn) (hi : IntsAre cs ins) (hn0 : 0 < ins.length) (hn1 : ins.length ≤ 100)
    (ret : ∀ v (e : Cd) cs' k' kt' us nk' tl h' tk', Step s.heap h' ((C, lstO cs ck) :: (T, lstO [.ref C, .int k kt] tz) :: (Nn, lstO [] nk) :: rest) ((C, lstO cs' ck) :: (T, lstO [.ref C, .int k' kt'] tz) :: (Nn, lstO us nk') :: (tl ++ rest)) →
      DatIn (tl ++ rest) v e.dat → DatAll (tl ++ rest) us (refs e.dat) → (∀ x ∈ e.exs, x.Ok ∧ Good 0 1 6 x.dat ∧ sz x.dat + 4 ≤ 81) → Q v { s with heap := h', toks := tk' }) :
    wpAny (model PySem.Challenge.rw_pb0239_01.row.prog w) (ar dp un fr gd) (call (.ref 205) [.ref T, .ref Nn]) Q E s := by
  walk_at "my enter"
  walk_at "my steps"
  unfold Stop
  rename Fr _ _ _ _ => F1
  refine forG F1 ?_ (by intro _; with_unfolding_all rfl)
  walk_at "my steps"
  rename News _ _ _ _ => N1
  rename Frag.In _ _ => X'
  rename Top _ _ _ _ _ _ => T'
  refine c_draw X' T' (Led.of F1 N1) (room1 (x := dp) hd rfl) (room0 (x := un) hu rfl) (List.forall_mem_cons.mpr ⟨hCN.symm, offC⟩) (List.forall_mem_cons.mpr ⟨hTN.symm, offT⟩) hCT hi hn0 hn1 (by decide) (by decide) fun r2 t2 cs2 ins2 k2 kt2 h2 tk2 S2 hi2 hl2 hr2 hs2 => ?_
  obtain ⟨F2, N2⟩ := S2.fr F1 N1
  clear F1 N1 S2
  walk_at "my steps"
  rename Fr _ _ _ _ => F3
  rename News _ _ _ _ => N3
  rename IsRange _ _ _ _ _ _ _ _ => ir
  obtain ⟨nr, rfl⟩ := Int.eq_ofNat_of_zero_le hr2
  rw [show (1 : Int) + (nr : Int) = ((nr + 1 : Nat) : Int) from by omega] at ir
  refine for_range (CondJ C T Nn ck tz ins.length rest) rfl rfl rfl F3 N3 ir (by omega) ⟨[], [], cs2, ins2, k2, kt2, nk, _, rfl, tp_nil, hi2, hl2, rfl, rfl, rfl, .inl ⟨rfl, rfl, rfl⟩⟩ ?_ ?_
  · rintro i m₁ nw I o t s₃ hlt ⟨tl, us, cs8, ins8, k8, kt8, nk8, fv, rfl, tp8, hi8, hl8, hT, hN, hf, hcase⟩ ho F8 N8 hI
    have o1 : ∀ q ∈ (I, o) :: rest, q.1 ≠ C := List.forall_mem_cons.mpr ⟨fun e => hI (by rw [← e]; exact List.mem_cons_self), offC⟩
    have o2 : ∀ q ∈ (I, o) :: rest, q.1 ≠ T := List.forall_mem_cons.mpr ⟨fun e => hI (by rw [← e]; exact List.mem_cons_of_mem _ List.mem_cons_self), offT⟩
    have o3 : ∀ q ∈ (I, o) :: rest, q.1 ≠ Nn := List.forall_mem_cons.mpr ⟨fun e => hI (by rw [← e]; exact List.mem_cons_of_mem _ (List.mem_cons_of_mem _ List.mem_cons_self)), offN⟩
    replace N8 := news_it N8
    have hIr : ∀ q ∈ rest, q.1 ≠ I := fun q hq e => hI (by rw [← e]; exact List.mem_map_of_mem (List.mem_cons_of_mem _ (List.mem_cons_of_mem _ (List.mem_cons_of_mem _ (List.mem_append_right _ hq)))))
    rcases hcase with ⟨rfl, rfl, rfl⟩ | ⟨a, b, rfl, hfv, hus, hab⟩ | ⟨a, b, c, d, rfl, _⟩
    rotate_left 2
    · omega
    · have ul : ([] : List Value).length = 0 := rfl
      walk_at "my steps"
      have oK9 := off_of N8 tp8 o1 o2 o3
      refine c_expr 2 X' T' (Led.of F8 N8) (roomE (x := dp) hd rfl) (roomE (x := un) hu rfl) oK9.1 oK9.2.1 oK9.2.2 hCT hCN hTN hi8 (by omega) (by omega) (by omega) rfl fun v9 e9 cs9 ins9 k9 kt9 ns9 us9 nk9 tl9 h9 tk9 S9 G9 => ?_
      obtain ⟨F9, N9⟩ := S9.fr F8 N8
      clear F8 N8 S9
      replace N9 := news_asc N9
      have hl9 := G9.il
      have hi9 := G9.ia
      have z9 := G9.zz
      have y9 := length_refs e9.dat
      have x9 := G9.du.length
      have w9 := congrArg List.length G9.nu
      rw [List.length_append] at w9
      walk_at "my steps"
      clear F9 N9
      rename Fr _ _ _ _ => F10
      rename News _ _ _ _ => N10
      have oK11 := off_of N10 (tp_app G9.tp tp8) o1 o2 o3
      refine c_expr 2 X' T' (Led.of F10 N10) (roomE (x := dp) hd rfl) (roomE (x := un) hu rfl) oK11.1 oK11.2.1 oK11.2.2 hCT hCN hTN hi9 (by omega) (by omega) (by omega) rfl fun v11 e11 cs11 ins11 k11 kt11 ns11 us11 nk11 tl11 h11 tk11 S11 G11 => ?_
      obtain ⟨F11, N11⟩ := S11.fr F10 N10
      clear F10 N10 S11
      replace N11 := news_asc N11
      have hl11 := G11.il
      have hi11 := G11.ia
      have z11 := G11.zz
      have y11 := length_refs e11.dat
      have x11 := G11.du.length
      have w11 := congrArg List.length G11.nu
      rw [List.length_append] at w11
      walk_at "my steps"
      rename Fr _ _ _ _ => F12
      rename News _ _ _ _ => N12
      have dv9 := DatIn.onlyC (only_it ho) G9.dv
      have du9 := DatAll.onlyC (only_it ho) G9.du
      have dv11 := DatIn.onlyC (only_it ho) G11.dv
      have du11 := DatAll.onlyC (only_it ho) G11.du
      have en : ns11 = us9 ++ us11 := by rw [G11.nu, G9.nu]; simp
      replace N12 := news_ti (news_back [_] N12)
      have tp12 := tp_app G11.tp (tp_app G9.tp tp8)
      refine ForEnd.mk F12 N12 (it_off N12 ho (tp_app (tp_cons rfl tp_nil) tp12) hIr) ⟨_, _, _, _, _, _, _, _, rfl, tp_app (tp_cons rfl tp_nil) tp12, hi11, by omega, hT, hN, rfl, .inr (.inl ⟨e9, e11, rfl, ?_, ?_, ?_⟩)⟩
      · exact .tuple (by k_mem) (.cons (.str _ _) (.cons (.str _ _) (.cons (dv9.mono fun _ h => memc (memc h)) (.cons (dv11.mono fun _ h => memc h) .nil))))
      · rw [en]; exact (du9.mono fun _ h => memc (memc h)).append (du11.mono fun _ h => memc h)
      · exact List.forall_mem_cons.mpr ⟨⟨G9.ok, G9.gd, G9.zz⟩, List.forall_mem_cons.mpr ⟨⟨G11.ok, G11.gd, G11.zz⟩, by simp⟩⟩
    · have ul := hus.length
      rw [List.length_append] at ul
      have l1 := length_refs a.dat
      have l2 := length_refs b.dat
      have l3 := (hab a (by simp)).2.2
      have l4 := (hab b (by simp)).2.2
      rw [relD] at hfv
      cases hfv with
      | tuple hm8 hr8 =>
      walk_at "my steps"
      rw [show (((1 : Nat) : Int)) = (1 : Int) from rfl] at F8
      have oK9 := off_of N8 tp8 o1 o2 o3
      refine c_expr 2 X' T' (Led.of F8 N8) (roomE (x := dp) hd rfl) (roomE (x := un) hu rfl) oK9.1 oK9.2.1 oK9.2.2 hCT hCN hTN hi8 (by omega) (by omega) (by omega) rfl fun v9 e9 cs9 ins9 k9 kt9 ns9 us9 nk9 tl9 h9 tk9 S9 G9 => ?_
      obtain ⟨F9, N9⟩ := S9.fr F8 N8
      clear F8 N8 S9
      replace N9 := news_asc N9
      have hl9 := G9.il
      have hi9 := G9.ia
      have z9 := G9.zz
      have y9 := length_refs e9.dat
      have x9 := G9.du.length
      have w9 := congrArg List.length G9.nu
      rw [List.length_append] at w9
      walk_at "my steps"
      clear F9 N9
      rename Fr _ _ _ _ => F10
      rename News _ _ _ _ => N10
      have oK11 := off_of N10 (tp_app G9.tp tp8) o1 o2 o3
      refine c_expr 2 X' T' (Led.of F10 N10) (roomE (x := dp) hd rfl) (roomE (x := un) hu rfl) oK11.1 oK11.2.1 oK11.2.2 hCT hCN hTN hi9 (by omega) (by omega) (by omega) rfl fun v11 e11 cs11 ins11 k11 kt11 ns11 us11 nk11 tl11 h11 tk11 S11 G11 => ?_
      obtain ⟨F11, N11⟩ := S11.fr F10 N10
      clear F10 N10 S11
      replace N11 := news_asc N11
      have hl11 := G11.il
      have hi11 := G11.ia
      have z11 := G11.zz
      have y11 := length_refs e11.dat
      have x11 := G11.du.length
      have w11 := congrArg List.length G11.nu
      rw [List.length_append] at w11
      walk_at "my steps"
      rename Fr _ _ _ _ => F12
      rename News _ _ _ _ => N12
      have dv9 := DatIn.onlyC (only_it ho) G9.dv
      have du9 := DatAll.onlyC (only_it ho) G9.du
      have dv11 := DatIn.onlyC (only_it ho) G11.dv
      have du11 := DatAll.onlyC (only_it ho) G11.du
      have en : ns11 = (us ++ us9) ++ us11 := by rw [G11.nu, G9.nu] <;> simp
      replace N12 := news_ti (news_back [_, _, _, _] N12)
      have tp12 := tp_app G11.tp (tp_app G9.tp tp8)
      refine ForEnd.mk F12 N12 (it_off N12 ho (tp_app (tp_cons rfl (tp_cons rfl (tp_cons rfl (tp_cons rfl tp_nil)))) tp12) hIr) ⟨_, _, _, _, _, _, _, _, rfl, tp_app (tp_cons rfl (tp_cons rfl (tp_cons rfl (tp_cons rfl tp_nil)))) tp12, hi11, by omega, hT, hN, rfl, .inr (.inr ⟨a, b, e9, e11, rfl, ?_, ?_, ?_⟩)⟩
      · exact .tuple (by k_mem) (.cons (.str _ _) (.cons (.tuple (memc (memc (memc hm8))) (hr8.mono fun _ h => memc (memc (memc h)))) (.cons (.tuple (by k_mem) (.cons (.str _ _) (.cons (.tuple (by k_mem) (.cons (.str _ _) (.cons (.str _ _) (.cons (dv9.mono fun _ h => memc (memc h)) (.cons (dv11.mono fun _ h => memc h) .nil))))) .nil))) .nil)))
      · rw [en, List.append_assoc us us9 us11]; exact DatAll.append (hus.mono fun _ h => memc (memc (memc h))) (DatAll.append (du9.mono fun _ h => memc (memc h)) (du11.mono fun _ h => memc h))
      · exact List.forall_mem_cons.mpr ⟨hab a (by simp), List.forall_mem_cons.mpr ⟨hab b (by simp), List.forall_mem_cons.mpr ⟨⟨G9.ok, G9.gd, G9.zz⟩, List.forall_mem_cons.mpr ⟨⟨G11.ok, G11.gd, G11.zz⟩, by simp⟩⟩⟩⟩
  · rintro h' tk' m' nw ⟨tl, us, cs8, ins8, k8, kt8, nk8, fv, rfl, tp8, hi8, hl8, hT, hN, hf, hcase⟩ F8 N8
    walk_at "my steps"
    rename Fr _ _ _ _ => F9
    rename News _ _ _ _ => N9
    refine Back.mk F9 N9 fun S => ?_
    rcases hcase with ⟨h, _⟩ | ⟨a, b, _, hfv, hus, hab⟩ | ⟨a, b, c, d, _, hfv, hus, hab⟩
    · omega
    · exact ret _ (.one a b) _ _ _ _ _ _ _ _ S hfv (by rw [Cd.dat, refs_rel]; exact hus) hab
    · exact ret _ (.two a b c d) _ _ _ _ _ _ _ _ S hfv (by rw [refs_two]; exact hus) hab
end
end
section
section
variable {prog : Program} {w : World} {A : Around} {E : Value → Shared → Prop} {s : Shared} {h₀ : Heap} {L : Addr} {Q : Value → Shared → Prop}
theorem m_item1 {a : Addr} {vs : List Value} {n : Nat} {value slice : Expr} {u : Tok} {x y : Value} {news : Ledger}
    (N : News h₀ L s.heap news) (hm : (a, tupO (x :: y :: vs) n) ∈ news) (h : Q y s)
    (hs : subscripted slice false (.ref a) (.int 1 u) = operate [.ref a, .int 1 u] (getItem (.ref a) (.int 1 u))) :
    wpAny (model prog w) A (subscriptTail value slice (.ref a) (.int 1 u)) Q E s :=
  m_item (j := 1) N hm (by decide) (by decide) (by simp [seqIndex?] <;> omega) rfl h hs
end
local macro_rules | `(tactic| walk_at "subscriptTail") => `(tactic| ((with_reducible show wpAny _ _ (subscriptTail _ _ (Value.ref _) (Value.int 1 _)) _ _ _); k_dflt (refine' m_item1 ?zN ?zm ?_ ?zs; (case zN => k_asm); (case zm => k_mem); (case zs => with_unfolding_all rfl); k_whole)))
theorem m_pow0 {prog : Program} {w : World} {A : Around} {E : Value → Shared → Prop} {s : Shared} {Q : Value → Shared → Prop} {n : Int} {t u : Tok} (hn : n = 0) (h : Q (.int 1 s.toks) { s with toks := s.toks + 1 }) : wpAny (model prog w) A (binaryOp .Pow (.int 10 t) (.int n u)) Q E s := by
  subst hn
  exact pow_int_small (Int.le_refl 0) (by decide) (by decide) h
local macro_rules | `(tactic| walk_at "binaryOp Pow int int") => `(tactic| (k_here; (with_reducible refine' m_pow0 ?zn ?_); (case zn => decide)))
/-- a number at scale 0 -/
noncomputable abbrev num0 (i : Int) : Dat := .tuple [.int i, .int 0]
noncomputable def nxA (x : Str) : Int := if x = Str.ofString "A" then 0 else if x = Str.ofString "B" then 1 else 2
noncomputable def nxB (x : Str) : Int := if x = Str.ofString "B" then 0 else if x = Str.ofString "C" then 1 else 2
/-- what _law_number gives for a leaf -/
noncomputable def numD (nx : Str → Int) : Dat → Int
  | .tuple (.str x :: .str who :: _) => if x = Str.ofString "ref" then 7 * nx who + 3 else 0
  | .tuple [_, .tuple [.int i, _]] => i
  | _ => 0
section
variable {w : World} {dp un : Nat} {fr : Option (List Env)} {gd : Option (List Code)} {s : Shared} {h₀ : Heap} {news : Ledger} {p : Program} {loose : List Str} {mean : ExcName → Option Value} {mg mb : Str → Option Value} {Q E : Value → Shared → Prop}

theorem c_decimal1 {u : Int} {ut : Tok} (X : (Mine.hd.heap_1 w.params).In h₀) (T : Top p loose mean mg mb h₀) (D : Led h₀ s.heap news) (hd : dp + 10 < recursionLimit) (hu : un + 100 < cLine)
    (ret : ∀ r h' tk' tl, Step s.heap h' news (tl ++ news) → (∀ q ∈ tl, q.2.cls = .type "tuple") → DatIn (tl ++ news) r (num0 u) → Q r { s with heap := h', toks := tk' }) :
    wpAny (model PySem.Challenge.rw_pb0239_01.row.prog w) (ar dp un fr gd) (call (.ref 95) [.int u ut]) Q E s := by
  walk_at "my enter"
  walk_at "my steps"
  rename (_ ≤ (0 : Int)) => a1
  rename (min (0 : Int) 0 ≤ _) => a2
  rename Fr _ _ _ _ => F4
  rename News _ _ _ _ => N4
  rename_i k _ _ _ _ _ _ _ _ _ _
  obtain rfl : k = 0 := by omega
  rw [accDown_start] at N4
  exact Back.mk F4 N4 fun S => ret _ _ _ [_] S (tp_cons rfl tp_nil) (.tuple List.mem_cons_self (.cons (.int _ _) (.cons (.int _ _) .nil)))
theorem c_decimal2 {u : Int} {ut zt : Tok} (X : (Mine.hd.heap_1 w.params).In h₀) (T : Top p loose mean mg mb h₀) (D : Led h₀ s.heap news) (hd : dp + 10 < recursionLimit) (hu : un + 100 < cLine)
    (ret : ∀ r h' tk' tl, Step s.heap h' news (tl ++ news) → (∀ q ∈ tl, q.2.cls = .type "tuple") → DatIn (tl ++ news) r (num0 u) → Q r { s with heap := h', toks := tk' }) :
    wpAny (model PySem.Challenge.rw_pb0239_01.row.prog w) (ar dp un fr gd) (call (.ref 95) [.int u ut, .int 0 zt]) Q E s := by
  walk_at "my enter"
  walk_at "my steps"
  rename (_ ≤ (0 : Int)) => a1
  rename (min (0 : Int) 0 ≤ _) => a2
  rename Fr _ _ _ _ => F4
  rename News _ _ _ _ => N4
  rename_i k _ _ _ _ _ _ _ _ _ _
  obtain rfl : k = 0 := by omega
  rw [accDown_start] at N4
  exact Back.mk F4 N4 fun S => ret _ _ _ [_] S (tp_cons rfl tp_nil) (.tuple List.mem_cons_self (.cons (.int _ _) (.cons (.int _ _) .nil)))
theorem c_beside {i j : Int} {va vb : Value} (X : (Mine.hd.heap_1 w.params).In h₀) (T : Top p loose mean mg mb h₀) (D : Led h₀ s.heap news) (hd : dp + 10 < recursionLimit) (hu : un + 100 < cLine)
    (ha : DatIn news va (num0 i)) (hb : DatIn news vb (num0 j))
    (ret : ∀ r ta tb tc k h' tk', Step s.heap h' news ([(r, tupO [.int i ta, .int j tb, .int 0 tc] k)] ++ news) → Q (.ref r) { s with heap := h', toks := tk' }) :
    wpAny (model PySem.Challenge.rw_pb0239_01.row.prog w) (ar dp un fr gd) (call (.ref 109) [va, vb]) Q E s := by
  obtain ⟨xa, ka, ta, ua, rfl, ma⟩ := inNum ha
  obtain ⟨xb, kb, tb, ub, rfl, mb⟩ := inNum hb
  walk_at "my enter"
  walk_at "my steps"
  rename Fr _ _ _ _ => F4
  rename News _ _ _ _ => N4
  rw [Int.mul_one, Int.mul_one] at N4
  exact Back.mk F4 N4 fun S => ret _ _ _ _ _ _ _ S
theorem c_plus {i j : Int} {va vb : Value} (X : (Mine.hd.heap_1 w.params).In h₀) (T : Top p loose mean mg mb h₀) (D : Led h₀ s.heap news) (hd : dp + 20 < recursionLimit) (hu : un + 200 < cLine)
    (ha : DatIn news va (num0 i)) (hb : DatIn news vb (num0 j))
    (ret : ∀ r h' tk' tl, Step s.heap h' news (tl ++ news) → (∀ q ∈ tl, q.2.cls = .type "tuple") → DatIn (tl ++ news) r (num0 (i + j)) → Q r { s with heap := h', toks := tk' }) :
    wpAny (model PySem.Challenge.rw_pb0239_01.row.prog w) (ar dp un fr gd) (call (.ref 116) [va, vb]) Q E s := by
  walk_at "my enter"
  walk_at "my steps"
  rename Fr _ _ _ _ => F4
  rename News _ _ _ _ => N4
  rename Frag.In _ _ => X'
  rename Top _ _ _ _ _ _ => T'
  refine c_beside X' T' (Led.of F4 N4) (room1 hd rfl) (room0 (x := un) hu rfl) ha hb fun r5 ta5 tb5 tc5 k5 h5 tk5 S5 => ?_
  obtain ⟨F5, N5⟩ := S5.fr F4 N4
  clear F4 N4 S5
  rw [List.singleton_append] at N5
  walk_at "my steps"
  rename Fr _ _ _ _ => F6
  rename News _ _ _ _ => N6
  refine c_decimal2 X' T' (Led.of F6 N6) (room1 hd rfl) (room0 (x := un) hu rfl) fun r7 h7 tk7 tl7 S7 tp7 hd7 => ?_
  obtain ⟨F7, N7⟩ := S7.fr F6 N6
  clear F6 N6 S7
  walk_at "my steps"
  have ee : tl7 ++ (r5, tupO [.int i ta5, .int j tb5, .int 0 tc5] k5) :: news = (tl7 ++ [(r5, tupO [.int i ta5, .int j tb5, .int 0 tc5] k5)]) ++ news := by simp
  rw [ee] at N7 hd7
  exact Back.mk F7 N7 fun S => ret _ _ _ _ S (tp_app tp7 (tp_cons rfl tp_nil)) hd7
theorem c_negated {i : Int} {va : Value} (X : (Mine.hd.heap_1 w.params).In h₀) (T : Top p loose mean mg mb h₀) (D : Led h₀ s.heap news) (hd : dp + 20 < recursionLimit) (hu : un + 200 < cLine)
    (ha : DatIn news va (num0 i))
    (ret : ∀ r h' tk' tl, Step s.heap h' news (tl ++ news) → (∀ q ∈ tl, q.2.cls = .type "tuple") → DatIn (tl ++ news) r (num0 (-i)) → Q r { s with heap := h', toks := tk' }) :
    wpAny (model PySem.Challenge.rw_pb0239_01.row.prog w) (ar dp un fr gd) (call (.ref 137) [va]) Q E s := by
  obtain ⟨xa, ka, ta, ua, rfl, ma⟩ := inNum ha
  walk_at "my enter"
  walk_at "my steps"
  rename Fr _ _ _ _ => F4
  rename News _ _ _ _ => N4
  exact Back.mk F4 N4 fun S => ret _ _ _ [_] S (tp_cons rfl tp_nil) (.tuple List.mem_cons_self (.cons (.int _ _) (.cons (.int _ _) .nil)))
theorem c_applied {i j : Int} {st : Tok} {va vb : Value} (X : (Mine.hd.heap_1 w.params).In h₀) (T : Top p loose mean mg mb h₀) (D : Led h₀ s.heap news) (hd : dp + 30 < recursionLimit) (hu : un + 300 < cLine)
    (ha : DatIn news va (num0 i)) (hb : DatIn news vb (num0 j))
    (ret : ∀ r h' tk' tl, Step s.heap h' news (tl ++ news) → (∀ q ∈ tl, q.2.cls = .type "tuple") → DatIn (tl ++ news) r (num0 (i + j)) → Q r { s with heap := h', toks := tk' }) :
    wpAny (model PySem.Challenge.rw_pb0239_01.row.prog w) (ar dp un fr gd) (call (.ref 179) [.str (Str.ofString "+") st, va, vb]) Q E s := by
  walk_at "my enter"
  walk_at "my steps"
  rename Fr _ _ _ _ => F4
  rename News _ _ _ _ => N4
  rename Frag.In _ _ => X'
  rename Top _ _ _ _ _ _ => T'
  refine c_plus X' T' (Led.of F4 N4) (room1 hd rfl) (room0 (x := un) hu rfl) ha hb fun r7 h7 tk7 tl7 S7 tp7 hd7 => ?_
  obtain ⟨F7, N7⟩ := S7.fr F4 N4
  walk_at "my steps"
  exact Back.mk F7 N7 fun S => ret _ _ _ _ S tp7 hd7

theorem c_number {v : Value} {d : Dat} {nm : Str} {nt : Tok} {nx : Str → Int} (X : (Mine.hd.heap_1 w.params).In h₀) (T : Top p loose mean mg mb h₀) (D : Led h₀ s.heap news) (hd : dp + 20 < recursionLimit) (hu : un + 200 < cLine)
    (hv : DatIn news v d) (hl : LeafV d) (hn : (nm = Str.ofString "BCA" ∧ nx = nxB) ∨ (nm = Str.ofString "ABC" ∧ nx = nxA))
    (ret : ∀ r h' tk' tl, Step s.heap h' news (tl ++ news) → (∀ q ∈ tl, q.2.cls = .type "tuple") → DatIn (tl ++ news) r (num0 (numD nx d)) → Q r { s with heap := h', toks := tk' }) :
    wpAny (model PySem.Challenge.rw_pb0239_01.row.prog w) (ar dp un fr gd) (call (.ref 231) [v, .str nm nt]) Q E s := by
  cases hl with
  | ref who d2 d3 d4 hw =>
    obtain ⟨xv, kv, v1, v2, v3, v4, v5, rfl, mb, h1, h2, h3, h4, h5⟩ := inTup5 hv
    obtain ⟨t1, rfl⟩ := inStr h1
    obtain ⟨t2, rfl⟩ := inStr h2
    have hf : Txt.find nm who = nx who := by
      rcases hn with ⟨rfl, rfl⟩ | ⟨rfl, rfl⟩ <;> cases hw <;> decide +kernel
    have hp : 0 ≤ nx who := by
      rcases hn with ⟨rfl, rfl⟩ | ⟨rfl, rfl⟩ <;> cases hw <;> decide +kernel
    walk_at "my enter"
    walk_at "my steps"
    rename Fr _ _ _ _ => F4
    rename News _ _ _ _ => N4
    rename Frag.In _ _ => X'
    rename Top _ _ _ _ _ _ => T'
    rw [hf]
    refine c_decimal1 X' T' (Led.of F4 N4) (room1 hd rfl) (room0 (x := un) hu rfl) fun r7 h7 tk7 tl7 S7 tp7 hd7 => ?_
    obtain ⟨F7, N7⟩ := S7.fr F4 N4
    walk_at "my steps"
    have en : numD nx (.tuple [.str (Str.ofString "ref"), .str who, d2, d3, d4]) = 7 * nx who + 3 := by rw [numD, if_pos rfl]
    rw [en] at ret
    exact Back.mk F7 N7 fun S => ret _ _ _ _ S tp7 hd7
  | number i =>
    obtain ⟨xv, kv, v1, v2, rfl, mb, h1, h2⟩ := inTup2 hv
    obtain ⟨t1, rfl⟩ := inStr h1
    walk_at "my enter"
    walk_at "my steps"
    exact Back.mk (by assumption) (by assumption) fun S => ret _ _ _ [] S tp_nil h2
  | text b =>
    obtain ⟨xv, kv, v1, v2, rfl, mb, h1, h2⟩ := inTup2 hv
    obtain ⟨t1, rfl⟩ := inStr h1
    walk_at "my enter"
    walk_at "my steps"
    rename Fr _ _ _ _ => F4
    rename News _ _ _ _ => N4
    exact Back.mk F4 N4 fun S => ret _ _ _ [_] S (tp_cons rfl tp_nil) (.tuple List.mem_cons_self (.cons (.int _ _) (.cons (.int _ _) .nil)))
  | figure x =>
    obtain ⟨xv, kv, v1, v2, rfl, mb, h1, h2⟩ := inTup2 hv
    obtain ⟨t1, rfl⟩ := inStr h1
    walk_at "my enter"
    walk_at "my steps"
    rename Fr _ _ _ _ => F4
    rename News _ _ _ _ => N4
    exact Back.mk F4 N4 fun S => ret _ _ _ [_] S (tp_cons rfl tp_nil) (.tuple List.mem_cons_self (.cons (.int _ _) (.cons (.int _ _) .nil)))
end
end
section
noncomputable def leafQ : Dat → Option Dat
  | .tuple [.str k, d] => if k = Str.ofString "leaf" then some d else none
  | _ => none
noncomputable def Ex.lvs : Ex → List Dat
  | .leaf d => [d]
  | .neg e => e.lvs
  | .add a b => a.lvs ++ b.lvs
theorem Ex.post_lvs : ∀ e : Ex, e.post.filterMap leafQ = e.lvs
  | .leaf d => by simp [Ex.post, Ex.lvs, leafQ]
  | .neg e => by
    rw [Ex.post, Ex.lvs, List.filterMap_append, Ex.post_lvs e]
    simp [leafQ]; decide +kernel
  | .add a b => by
    rw [Ex.post, Ex.lvs, List.filterMap_append, List.filterMap_append, Ex.post_lvs a, Ex.post_lvs b]
    simp [leafQ]; decide +kernel
theorem Ex.post_two : ∀ (e : Ex), ∀ d ∈ e.post, ∃ x b, d = .tuple [.str x, b] ∧ ((x = Str.ofString "leaf" ∧ (e.Ok → LeafOk b)) ∨ (x = Str.ofString "op" ∧ (b = .str (Str.ofString "neg") ∨ b = .str (Str.ofString "+"))))
  | .leaf d, x, hx => by
    rw [Ex.post, List.mem_singleton] at hx
    exact ⟨_, _, hx, .inl ⟨rfl, fun h => h⟩⟩
  | .neg e, x, hx => by
    rw [Ex.post] at hx
    rcases List.mem_append.mp hx with h | h
    · obtain ⟨y, b, rfl, h2⟩ := Ex.post_two e x h
      exact ⟨y, b, rfl, h2⟩
    · rw [List.mem_singleton.mp h]; exact ⟨_, _, rfl, .inr ⟨rfl, .inl rfl⟩⟩
  | .add a b, x, hx => by
    rw [Ex.post] at hx
    rcases List.mem_append.mp hx with h | h
    · rcases List.mem_append.mp h with h | h
      · obtain ⟨y, b', rfl, h2⟩ := Ex.post_two a x h
        exact ⟨y, b', rfl, h2.imp (fun h => ⟨h.1, fun k => h.2 k.1⟩) fun h => h⟩
      · obtain ⟨y, b', rfl, h2⟩ := Ex.post_two b x h
        exact ⟨y, b', rfl, h2.imp (fun h => ⟨h.1, fun k => h.2 k.2⟩) fun h => h⟩
    · rw [List.mem_singleton.mp h]; exact ⟨_, _, rfl, .inr ⟨rfl, .inr rfl⟩⟩
theorem Ex.post_len : ∀ e : Ex, e.post.length ≤ e.w
  | .leaf d => by simp [Ex.post, Ex.w]
  | .neg e => by have := Ex.post_len e; simp only [Ex.post, Ex.w, List.length_append, List.length_singleton]; omega
  | .add a b => by have := Ex.post_len a; have := Ex.post_len b; simp only [Ex.post, Ex.w, List.length_append, List.length_singleton]; omega

local macro_rules | `(tactic| walk_at "eval ListComp") => `(tactic| refine stop_here ?_)
section
variable {w : World} {dp un : Nat} {fr : Option (List Env)} {gd : Option (List Code)} {s : Shared} {h₀ : Heap} {news : Ledger} {p : Program} {loose : List Str} {mean : ExcName → Option Value} {mg mb : Str → Option Value} {Q E : Value → Shared → Prop}

theorem c_leaves {v : Value} {e : Ex} (X : (Mine.hd.heap_1 w.params).In h₀) (T : Top p loose mean mg mb h₀) (D : Led h₀ s.heap news) (hd : dp + 50 < recursionLimit) (hu : un + 400 < cLine)
    (hv : DatIn news v e.dat) (hok : e.Ok) (hsz : e.w ≤ 50000)
    (ret : ∀ l lk ys h' tk' tl, Step s.heap h' news (tl ++ news) → (l, lstO ys lk) ∈ tl → DatAll (tl ++ news) ys e.lvs → Q (.ref l) { s with heap := h', toks := tk' }) :
    wpAny (model PySem.Challenge.rw_pb0239_01.row.prog w) (ar dp un fr gd) (call (.ref 172) [v]) Q E s := by
  walk_at "my enter"
  walk_at "my steps"
  unfold Stop
  rename Fr _ _ _ _ => lF9
  with_reducible refine' comp_pairs lF9 leafQ ?zc ?zd ?ze ?zf ?zg ?zg2 ?zh ?zi ?_ ?zj
  (case zc => with_unfolding_all rfl)
  (case zd => decide)
  (case ze => with_unfolding_all rfl)
  (case zf => decide)
  (case zg => with_unfolding_all rfl)
  (case zg2 => with_unfolding_all rfl)
  (case zh => decide)
  (case zi => exact rfl)
  (case zj => (intro _; with_unfolding_all rfl))
  walk_at "my steps"
  rename News _ _ _ _ => N4
  rename Frag.In _ _ => X'
  rename Top _ _ _ _ _ _ => T'
  refine c_postfix X' T' (Led.of lF9 N4) (room1 hd rfl) (room0 (x := un) hu rfl) hv hok hsz fun l5 lk5 ys5 h5 tk5 tl5 S5 hl5 _ hd5 => ?_
  obtain ⟨F5, N5⟩ := S5.fr lF9 N4
  clear lF9 N4 S5
  have hz := hd5.length
  have hy := e.post_len
  refine ⟨l5, ys5, lk5, e.post, _, _, rfl, List.mem_append_left _ hl5, ?_, ?_, F5, N5, hd5, ?_, ?_⟩
  · have : sizeLine = 2 ^ 24 := rfl
    omega
  · intro d hd
    obtain ⟨x, b, rfl, _⟩ := e.post_two d hd
    exact ⟨_, _, rfl⟩
  · intro C a b v₁ v₂ s₃ m₃ hab h1 h2 hn hm1 hm2 F3 N3 hCL
    obtain ⟨x, b', e1, hx⟩ := e.post_two _ hab
    cases e1
    cases h1
    rcases hx with ⟨rfl, _⟩ | ⟨rfl, _⟩
    · walk_at "my steps"
      exact h2
    · walk_at "my steps"
  · intro D h' tk ys k' hle hys F3 N3 hD
    rw [Ex.post_lvs] at hys
    walk_at "my steps"
    have ee : (D, lstO ys k') :: (tl5 ++ news) = ((D, lstO ys k') :: tl5) ++ news := rfl
    rw [ee] at N3
    exact Back.mk F3 N3 fun S => ret _ _ _ _ _ _ S List.mem_cons_self (hys.mono fun _ h => List.mem_cons_of_mem _ h)
end
end
section
noncomputable def negS : List Int → Option (List Int)
  | a :: rs => some (-a :: rs)
  | [] => none
noncomputable def addS : List Int → Option (List Int)
  | a :: b :: rs => some ((b + a) :: rs)
  | [_] => none
  | [] => none
noncomputable def opD : Dat → List Int → Option (List Int)
  | .str x, rs => if x = Str.ofString "neg" then negS rs else addS rs
  | _, _ => none
noncomputable def stp (nx : Str → Int) : Dat → List Int → Option (List Int)
  | .tuple [.str k, d], rs => if k = Str.ofString "leaf" then some (numD nx d :: rs) else opD d rs
  | _, _ => none
/-- the stack machine that reckoned is; the top is the head -/
noncomputable def run (nx : Str → Int) : List Dat → List Int → Option (List Int)
  | [], rs => some rs
  | d :: l, rs => (stp nx d rs).bind (run nx l)
theorem op_ne : Str.ofString "op" ≠ Str.ofString "leaf" := by decide +kernel
theorem add_ne : Str.ofString "+" ≠ Str.ofString "neg" := by decide +kernel
noncomputable def Ex.val (nx : Str → Int) : Ex → Int
  | .leaf d => numD nx d
  | .neg e => -e.val nx
  | .add a b => a.val nx + b.val nx
theorem run_leaf {nx : Str → Int} {d : Dat} {l : List Dat} {rs : List Int} : run nx (.tuple [.str (Str.ofString "leaf"), d] :: l) rs = run nx l (numD nx d :: rs) := by
  rw [run, stp, if_pos rfl, Option.bind_some]
theorem run_neg {nx : Str → Int} {a : Int} {l : List Dat} {rs : List Int} : run nx (.tuple [.str (Str.ofString "op"), .str (Str.ofString "neg")] :: l) (a :: rs) = run nx l (-a :: rs) := by
  rw [run, stp, if_neg op_ne, opD, if_pos rfl, negS, Option.bind_some]
theorem run_add {nx : Str → Int} {a b : Int} {l : List Dat} {rs : List Int} : run nx (.tuple [.str (Str.ofString "op"), .str (Str.ofString "+")] :: l) (a :: b :: rs) = run nx l ((b + a) :: rs) := by
  rw [run, stp, if_neg op_ne, opD, if_neg add_ne, addS, Option.bind_some]
theorem run_neg0 {nx : Str → Int} {l : List Dat} : run nx (.tuple [.str (Str.ofString "op"), .str (Str.ofString "neg")] :: l) [] = none := by
  rw [run, stp, if_neg op_ne, opD, if_pos rfl, negS, Option.bind_none]
theorem run_add0 {nx : Str → Int} {l : List Dat} : run nx (.tuple [.str (Str.ofString "op"), .str (Str.ofString "+")] :: l) [] = none := by
  rw [run, stp, if_neg op_ne, opD, if_neg add_ne, addS, Option.bind_none]
theorem run_add1 {nx : Str → Int} {a : Int} {l : List Dat} : run nx (.tuple [.str (Str.ofString "op"), .str (Str.ofString "+")] :: l) [a] = none := by
  rw [run, stp, if_neg op_ne, opD, if_neg add_ne, addS, Option.bind_none]
theorem Ex.post_pos : ∀ e : Ex, 0 < e.post.length
  | .leaf d => by simp [Ex.post]
  | .neg e => by simp [Ex.post]
  | .add a b => by simp [Ex.post]; omega
theorem run_post (nx : Str → Int) : ∀ (e : Ex) (l : List Dat) (rs : List Int), run nx (e.post ++ l) rs = run nx l (e.val nx :: rs)
  | .leaf d, l, rs => by rw [Ex.post, List.singleton_append, run_leaf, Ex.val]
  | .neg e, l, rs => by rw [Ex.post, List.append_assoc, run_post nx e, List.singleton_append, run_neg, Ex.val]
  | .add a b, l, rs => by rw [Ex.post, List.append_assoc, List.append_assoc, run_post nx a, run_post nx b, List.singleton_append, run_add, Ex.val]

/-- an entry that a call is not told of -/
theorem step_aside {h₀ h h' : Heap} {L : Addr} {m : Str → Option Value} {news news' : Ledger} {q : Addr × Obj} (S : Step h h' news news') (F : Fr h₀ L h m) (N : News h₀ L h (q :: news)) (hn : q.1 ∉ news.map (·.1)) : News h₀ L h' (q :: news') ∧ q.1 ∉ news'.map (·.1) := by
  obtain ⟨e, hL, h0⟩ := N q List.mem_cons_self
  refine ⟨List.forall_mem_cons.mpr ⟨⟨S.keep _ _ hn e, hL, h0⟩, (S.fr F fun p hp => N p (List.mem_cons_of_mem _ hp)).2⟩, step_not S hn e⟩
theorem not_map {a : Addr} {news : Ledger} (h : ∀ q ∈ news, q.1 ≠ a) : a ∉ news.map (·.1) := fun q => by
  obtain ⟨p, hp, e⟩ := List.mem_map.mp q
  exact h p hp e
theorem of_not_map {a : Addr} {news : Ledger} (h : a ∉ news.map (·.1)) : ∀ q ∈ news, q.1 ≠ a := fun q hq e => h (by rw [← e]; exact List.mem_map_of_mem hq)

/-- what the function handed to reckoned answers -/
def NumOk (w : World) (p : Program) (loose : List Str) (mean : ExcName → Option Value) (mg mb : Str → Option Value) (fa : Addr) (req : Ledger) (nx : Str → Int) : Prop :=
  ∀ {dp un : Nat} {fr : Option (List Env)} {gd : Option (List Code)} {s : Shared} {h₀ : Heap} {news : Ledger} {Q E : Value → Shared → Prop} {v : Value} {d : Dat},
    (Mine.hd.heap_1 w.params).In h₀ → Top p loose mean mg mb h₀ → Led h₀ s.heap news → (∀ q ∈ req, q ∈ news) → dp + 40 < recursionLimit → un + 400 < cLine → DatIn news v d → LeafV d →
    (∀ r h' tk' tl, Step s.heap h' news (tl ++ news) → (∀ q ∈ tl, q.2.cls = .type "tuple") → DatIn (tl ++ news) r (num0 (numD nx d)) → Q r { s with heap := h', toks := tk' }) →
    wpAny (model PySem.Challenge.rw_pb0239_01.row.prog w) (ar dp un fr gd) (call (.ref fa) [v]) Q E s

/-- what stands in the ledger between two rounds of reckoned's loop -/
def RecJ (nx : Str → Int) (post : List Dat) (fin : Int) (pile fa : Addr) (R0 : Ledger) (i : Nat) (m : Str → Option Value) (nw : Ledger) : Prop :=
  ∃ (tl : Ledger) (ps : List Value) (pk : Nat) (rs : List Int), nw = (pile, lstO ps pk) :: (tl ++ R0) ∧ (∀ q ∈ tl, q.2.cls = .type "tuple") ∧ m (Str.ofString "pile") = some (.ref pile) ∧ m (Str.ofString "number") = some (.ref fa) ∧
    DatAll (tl ++ R0) ps (rs.reverse.map num0) ∧ run nx (post.drop i) rs = some [fin] ∧ rs.length ≤ i

theorem it_ne_tuple : Value.type "list_iterator" ≠ Value.type "tuple" := by decide
theorem list_ne_tuple : Value.type "list" ≠ Value.type "tuple" := by decide
theorem rec_sort {h₀ h : Heap} {L : Addr} {nw tl R0 : Ledger} {pile I : Addr} {x o : Obj} (N : News h₀ L h nw) (hs : ∀ q ∈ (pile, x) :: ((I, o) :: (tl ++ R0)), q ∈ nw) (tp : ∀ q ∈ tl, q.2.cls = .type "tuple") (hx : x.cls = .type "list") (ho : o.cls = .type "list_iterator")
    (hIR : I ∉ R0.map (·.1)) (offP : ∀ q ∈ R0, q.1 ≠ pile) (hIp : I ≠ pile) : News h₀ L h ((pile, x) :: ((I, o) :: (tl ++ R0))) ∧ (∀ q ∈ (I, o) :: (tl ++ R0), q.1 ≠ pile) ∧ (I ∉ (tl ++ R0).map (·.1)) := by
  have N' := news_sub N hs
  refine ⟨N', List.forall_mem_cons.mpr ⟨hIp, fun q hq => (List.mem_append.mp hq).elim (fun h => ?_) (offP q)⟩, ?_⟩
  · exact news_ne N' (a := q.1) (o1 := q.2) (List.mem_cons_of_mem _ (List.mem_cons_of_mem _ hq)) List.mem_cons_self (by rw [tp q h, hx]; exact list_ne_tuple.symm)
  · intro hm
    rw [List.map_append] at hm
    rcases List.mem_append.mp hm with h | h
    · obtain ⟨q, hq, e⟩ := List.mem_map.mp h
      exact news_ne N' (a := q.1) (o1 := q.2) (List.mem_cons_of_mem _ (List.mem_cons_of_mem _ (List.mem_append_left _ hq))) (List.mem_cons_of_mem _ List.mem_cons_self) (by rw [tp q hq, ho]; exact it_ne_tuple.symm) e
    · exact hIR h
theorem rec_mid {I pile : Addr} {x : Obj} {tl R0 : Ledger} (h : I ∉ ((pile, x) :: (tl ++ R0)).map (·.1)) : I ≠ pile ∧ I ∉ R0.map (·.1) := by
  simp only [List.map_cons, List.map_append, List.mem_cons, List.mem_append, not_or] at h
  exact ⟨h.1, h.2.2⟩
theorem rec_new {I pile : Addr} {x : Obj} {tl R0 : Ledger} (h1 : I ≠ pile) (h2 : I ∉ (tl ++ R0).map (·.1)) : I ∉ ((pile, x) :: (tl ++ R0)).map (·.1) := by
  simp only [List.map_cons, List.mem_cons, not_or]
  exact ⟨h1, h2⟩

theorem num_only {nw nw' : Ledger} {r : Value} {i : Int} (h : DatIn nw r (num0 i)) (hs : ∀ p ∈ nw, p.2.cls = .type "tuple" → p ∈ nw') : DatIn nw' r (num0 i) := by
  cases h with
  | tuple hm r =>
    rcases r with _ | ⟨⟨⟩, _ | ⟨⟨⟩, ⟨⟩⟩⟩
    exact .tuple (hs _ hm rfl) (.cons (.int _ _) (.cons (.int _ _) .nil))
theorem mem_mid {p : Addr × Obj} {a tl R0 : Ledger} {q1 q2 : Addr × Obj} (h1 : q1.2.cls ≠ .type "tuple") (h2 : q2.2.cls ≠ .type "tuple") (hp : p ∈ a ++ (q1 :: q2 :: (tl ++ R0))) (hc : p.2.cls = .type "tuple") : p ∈ (a ++ tl) ++ R0 := by
  simp only [List.mem_append, List.mem_cons] at hp ⊢
  rcases hp with h | rfl | rfl | h | h
  · exact .inl (.inl h)
  · exact absurd hc h1
  · exact absurd hc h2
  · exact .inl (.inr h)
  · exact .inr h
theorem it_cls {o : Obj} (ho : o.cls = .type "list_iterator") : o.cls ≠ .type "tuple" := by rw [ho]; exact it_ne_tuple

local macro_rules | `(tactic| walk_at "exec For Tuple Call cons nil") => `(tactic| refine stop_here ?_)
local macro_rules | `(tactic| walk_at "callWith ref") => `(tactic| (k_here; k_dflt (refine' callWith_F ?k1 ?_; (case k1 => exact FnAt.of (by k_asm) (by k_mem)); k_whole)))
section
variable {w : World} {dp un : Nat} {fr : Option (List Env)} {gd : Option (List Code)} {s : Shared} {h₀ : Heap} {news : Ledger} {p : Program} {loose : List Str} {mean : ExcName → Option Value} {mg mb : Str → Option Value} {Q E : Value → Shared → Prop}

theorem c_reckoned {v : Value} {e : Ex} {fa : Addr} {req : Ledger} {nx : Str → Int} {foc : Value} {fod : Option Addr} {ffd : FuncData} {fsl : Array (Option Value)} (hnum : NumOk w p loose mean mg mb fa req nx) (X : (Mine.hd.heap_1 w.params).In h₀) (T : Top p loose mean mg mb h₀) (D : Led h₀ s.heap news) (hd : dp + 100 < recursionLimit) (hu : un + 800 < cLine)
    (hreq : ∀ q ∈ req, q ∈ news) (hfn : (fa, (⟨foc, fod, .func ffd, fsl⟩ : Obj)) ∈ news) (hv : DatIn news v e.dat) (hok : e.Ok) (hsz : e.w ≤ 50000)
    (ret : ∀ r h' tk' tl, Step s.heap h' news (tl ++ news) → DatIn (tl ++ news) r (num0 (e.val nx)) → Q r { s with heap := h', toks := tk' }) :
    wpAny (model PySem.Challenge.rw_pb0239_01.row.prog w) (ar dp un fr gd) (call (.ref 186) [v, .ref fa]) Q E s := by
  walk_at "my enter"
  walk_at "my steps"
  unfold Stop
  rename Fr _ _ _ _ => F1
  refine forG F1 ?_ (by intro _; with_unfolding_all rfl)
  walk_at "my steps"
  rename News _ _ _ _ => N1
  rename Frag.In _ _ => X'
  rename Top _ _ _ _ _ _ => T'
  rename_i pile _ lpile _
  have np : pile ∉ news.map (·.1) := not_map fun q hq => Nat.ne_of_lt (lpile q hq)
  refine c_postfix X' T' (Led.of F1 (news_sub N1 fun q hq => List.mem_cons_of_mem _ hq)) (room1 hd rfl) (room0 (x := un) hu rfl) hv hok hsz fun l5 lk5 ys5 h5 tk5 tl5 S5 hl5 tp5 hd5 => ?_
  obtain ⟨N5, np5⟩ := step_aside S5 F1 N1 np
  obtain ⟨F5, _⟩ := S5.fr F1 (news_sub N1 fun q hq => List.mem_cons_of_mem _ hq)
  clear F1 N1 S5
  have hz := hd5.length
  have hy := e.post_len
  have offP := of_not_map np5
  replace N5 := news_sub N5 (news' := (pile, lstO [] 0) :: (([] : Ledger) ++ (tl5 ++ news))) (fun q hq => hq)
  refine for_pairs (RecJ nx e.post (e.val nx) pile fa (tl5 ++ news)) rfl rfl rfl rfl F5 N5 (List.mem_cons_of_mem _ (List.mem_append_right _ (List.mem_append_left _ hl5))) (ds := e.post) ?_ ?_ ⟨[], [], 0, [], rfl, tp_nil, rfl, rfl, .nil, ?_, Nat.le_refl _⟩ ?_ ?_
  · rintro i m nw ⟨tl, ps, pk, rs, rfl, _⟩
    exact ⟨List.mem_cons_of_mem _ (List.mem_append_right _ (List.mem_append_left _ hl5)), hd5.mono fun q hq => List.mem_cons_of_mem _ (List.mem_append_right _ hq)⟩
  · intro d hd
    obtain ⟨x, b, rfl, _⟩ := e.post_two d hd
    exact ⟨_, _, rfl⟩
  · have := run_post nx e [] []
    rw [List.append_nil] at this
    rw [List.drop_zero, this, run]
  · rintro i a b v₁ v₂ m₁ nw I o s₃ hda h1 h2 ⟨tl, ps, pk, rs, rfl, tp, hmp, hmn, hps, hrun, hrs⟩ ho F8 N8 hI
    obtain ⟨x, b', e1, hx⟩ := e.post_two _ (List.mem_of_getElem? hda)
    cases e1
    cases h1
    have hdrop : e.post.drop i = .tuple [.str x, b] :: e.post.drop (i + 1) := by
      obtain ⟨hi, e2⟩ := List.getElem?_eq_some_iff.mp hda
      rw [List.drop_eq_getElem_cons hi, e2]
    have hilt : i < e.post.length := (List.getElem?_eq_some_iff.mp hda).1
    rw [hdrop] at hrun
    obtain ⟨hIp, hIR⟩ := rec_mid hI
    have hpl := hps.length
    rw [List.length_map, List.length_reverse] at hpl
    rcases hx with ⟨rfl, hlf⟩ | ⟨rfl, rfl | rfl⟩
    · rw [run_leaf] at hrun
      walk_at "my steps"
      refine hnum X' T' (Led.of F8 N8) (fun q hq => List.mem_cons_of_mem _ (List.mem_cons_of_mem _ (List.mem_append_right _ (List.mem_append_right _ (hreq q hq))))) (room1 hd rfl) (room0 (x := un) hu rfl) (h2.mono fun _ h => List.mem_cons_of_mem _ h) (hlf hok).2 fun r9 h9 tk9 tl9 S9 tp9 hd9 => ?_
      obtain ⟨F9, N9⟩ := S9.fr F8 N8
      clear F8 N8 S9
      obtain ⟨N10, off10, nI10⟩ := rec_sort (tl := tl9 ++ tl) (R0 := tl5 ++ news) (pile := pile) (I := I) (x := lstO ps pk) (o := o) N9 (fun q hq => by simp only [List.mem_cons, List.mem_append] at hq ⊢; grind) (tp_app tp9 tp) rfl ho hIR offP hIp
      clear N9
      walk_at "my steps"
      rename Fr _ _ _ _ => F20
      rename News _ _ _ _ => N20
      rw [List.push_toArray] at N20
      refine ForEnd.mk F20 (news_swap N20) (rec_new hIp nI10) ⟨tl9 ++ tl, ps ++ [r9], _, numD nx b :: rs, rfl, tp_app tp9 tp, hmp, hmn, ?_, hrun, by simp only [List.length_cons]; omega⟩
      rw [List.reverse_cons, List.map_append]
      exact (hps.mono fun q hq => by simp only [List.mem_append] at hq ⊢; grind).append (.one (num_only hd9 fun p hp hc => mem_mid (it_cls ho) list_ne_tuple hp hc))
    · cases rs with
      | nil => rw [run_neg0] at hrun; cases hrun
      | cons a rs =>
      rw [run_neg] at hrun
      cases h2
      rw [List.reverse_cons, List.map_append, List.map_singleton] at hps
      obtain ⟨ps, va, rfl, hps, hva⟩ := DatAll.snoc' hps
      have hpz := hps.length
      rw [List.length_map, List.length_reverse] at hpz
      simp only [List.length_cons] at hrs
      obtain ⟨N9, off9, nI9⟩ := rec_sort (tl := tl) (R0 := tl5 ++ news) (pile := pile) (I := I) (x := lstO (ps ++ [va]) pk) (o := o) N8 (fun q hq => by simp only [List.mem_cons, List.mem_append] at hq ⊢; grind) tp rfl ho hIR offP hIp
      clear N8
      walk_at "my steps"
      refine m_pop F8 N9 off9 (by omega) fun h11 F11 N11 => ?_
      clear F8 N9
      walk_at "my steps"
      refine c_negated X' T' (Led.of F11 N11) (room1 hd rfl) (room0 (x := un) hu rfl) (hva.mono (fun q hq => List.mem_cons_of_mem _ (List.mem_cons_of_mem _ hq))) fun r12 h12 tk12 tl12 S12 tp12 hd12 => ?_
      obtain ⟨F12, N12⟩ := S12.fr F11 N11
      clear F11 N11 S12
      obtain ⟨N13, off13, nI13⟩ := rec_sort (tl := tl12 ++ tl) (R0 := tl5 ++ news) (pile := pile) (I := I) (x := lstO ps (pk + 1)) (o := o) N12 (fun q hq => by simp only [List.mem_cons, List.mem_append] at hq ⊢; grind) (tp_app tp12 tp) rfl ho hIR offP hIp
      clear N12
      walk_at "my steps"
      rename Fr _ _ _ _ => F20
      rename News _ _ _ _ => N20
      rw [List.push_toArray] at N20
      refine ForEnd.mk F20 (news_swap N20) (rec_new hIp nI13) ⟨tl12 ++ tl, ps ++ [r12], _, -a :: rs, rfl, tp_app tp12 tp, hmp, hmn, ?_, hrun, by simp only [List.length_cons]; omega⟩
      rw [List.reverse_cons, List.map_append]
      exact (hps.mono fun q hq => by simp only [List.mem_append] at hq ⊢; grind).append (.one (num_only hd12 fun p hp hc => mem_mid list_ne_tuple (it_cls ho) hp hc))
    · cases rs with
      | nil => rw [run_add0] at hrun; cases hrun
      | cons a rs =>
      cases rs with
      | nil => rw [run_add1] at hrun; cases hrun
      | cons b rs =>
      rw [run_add] at hrun
      cases h2
      rw [List.reverse_cons, List.reverse_cons, List.map_append, List.map_append, List.map_singleton, List.map_singleton] at hps
      obtain ⟨ps, va, rfl, hps, hva⟩ := DatAll.snoc' hps
      obtain ⟨ps, vb, rfl, hps, hvb⟩ := DatAll.snoc' hps
      have hpz := hps.length
      rw [List.length_map, List.length_reverse] at hpz
      simp only [List.length_cons] at hrs
      obtain ⟨N9, off9, nI9⟩ := rec_sort (tl := tl) (R0 := tl5 ++ news) (pile := pile) (I := I) (x := lstO ((ps ++ [vb]) ++ [va]) pk) (o := o) N8 (fun q hq => by simp only [List.mem_cons, List.mem_append] at hq ⊢; grind) tp rfl ho hIR offP hIp
      clear N8
      walk_at "my steps"
      refine m_pop F8 N9 off9 (by simp only [List.length_append, List.length_singleton]; omega) fun h11 F11 N11 => ?_
      clear F8 N9
      walk_at "my steps"
      clear F11 N11
      rename Fr _ _ _ _ => F14
      rename News _ _ _ _ => N14
      refine m_pop F14 N14 off9 (by omega) fun h15 F15 N15 => ?_
      clear F14 N14
      walk_at "my steps"
      refine c_applied X' T' (Led.of F15 N15) (room1 hd rfl) (room0 (x := un) hu rfl) (hvb.mono (fun q hq => List.mem_cons_of_mem _ (List.mem_cons_of_mem _ hq))) (hva.mono (fun q hq => List.mem_cons_of_mem _ (List.mem_cons_of_mem _ hq))) fun r12 h12 tk12 tl12 S12 tp12 hd12 => ?_
      obtain ⟨F12, N12⟩ := S12.fr F15 N15
      clear F15 N15 S12
      obtain ⟨N13, off13, nI13⟩ := rec_sort (tl := tl12 ++ tl) (R0 := tl5 ++ news) (pile := pile) (I := I) (x := lstO ps (pk + 1 + 1)) (o := o) N12 (fun q hq => by simp only [List.mem_cons, List.mem_append] at hq ⊢; grind) (tp_app tp12 tp) rfl ho hIR offP hIp
      clear N12
      walk_at "my steps"
      rename Fr _ _ _ _ => F20
      rename News _ _ _ _ => N20
      rw [List.push_toArray] at N20
      refine ForEnd.mk F20 (news_swap N20) (rec_new hIp nI13) ⟨tl12 ++ tl, ps ++ [r12], _, (b + a) :: rs, rfl, tp_app tp12 tp, hmp, hmn, ?_, hrun, by simp only [List.length_cons]; omega⟩
      rw [List.reverse_cons, List.map_append]
      exact (hps.mono fun q hq => by simp only [List.mem_append] at hq ⊢; grind).append (.one (num_only hd12 fun p hp hc => mem_mid list_ne_tuple (it_cls ho) hp hc))
  · rintro h' tk' m' nw ⟨tl, ps, pk, rs, rfl, tp, hmp, hmn, hps, hrun, hrs⟩ F8 N8
    have hdn : e.post.drop ys5.length = [] := by rw [hz, List.drop_length]
    rw [hdn, run] at hrun
    cases hrun
    rcases hps with _ | ⟨hva, ⟨⟩⟩
    rename_i va
    have offt : ∀ q ∈ tl ++ (tl5 ++ news), q.1 ≠ pile := fun q hq => (List.mem_append.mp hq).elim (fun h => news_ne N8 (a := q.1) (o1 := q.2) (List.mem_cons_of_mem _ hq) List.mem_cons_self (by rw [tp q h]; exact tup_ne_list)) (offP q)
    walk_at "my steps"
    rename Fr _ _ _ _ => F9
    rename News _ _ _ _ => N9
    exact Back.mk F9 (news_sub N9 (news' := (tl ++ tl5) ++ news) (fun q hq => by simp only [List.mem_cons, List.mem_append] at hq ⊢; grind)) fun S => ret _ _ _ (tl ++ tl5) S (by rw [List.append_assoc]; exact hva)
end
end
section
/-! the plain law over trees -/
theorem exch_ref (f : Dat → Dat) {who : Str} {gs : List Str} {rows : List Dat} {part : Dat} (hg : gs.length ≤ 4) (hr : rows.length ≤ 4) :
    exch f (.tuple [.str (Str.ofString "ref"), .str who, .tuple (gs.map Dat.str), .tuple rows, part]) = f (.tuple [.str (Str.ofString "ref"), .str who, .tuple (gs.map Dat.str), .tuple (exchs f rows), exch f part]) := by
  have e : exchs f [.str (Str.ofString "ref"), .str who, .tuple (gs.map Dat.str), .tuple rows, part] = [.str (Str.ofString "ref"), .str who, .tuple (gs.map Dat.str), .tuple (exchs f rows), exch f part] := by
    simp only [exchs]
    rw [exch_atom f (.str _), exch_atom f (.str _), exch_tuple_ne f (by rw [List.length_map]; omega), exchs_strs, exch_tuple_ne f (by omega)]
  rw [exch, e, ref_true, if_pos rfl]
theorem turn_ref {who : Str} {gs : List Str} {rows part : Dat} : turnD (.tuple [.str (Str.ofString "ref"), .str who, .tuple (gs.map Dat.str), rows, part]) =
    .tuple [.str (Str.ofString "ref"), .str (rot who), .tuple ((gs ++ [Str.ofString "T"]).map Dat.str), rows, part] := by
  rw [turnD, List.map_append, List.map_singleton]
theorem hand_is {who : Str} {gs : List Str} {rows : List Dat} {part : Dat} (hg : gs.length ≤ 4) (hr : rows.length ≤ 4) :
    hand (.tuple [.str (Str.ofString "ref"), .str who, .tuple (gs.map Dat.str), .tuple rows, part]) = .tuple [.str (Str.ofString "ref"), .str (rot who), .tuple ((gs ++ [Str.ofString "T"]).map Dat.str), .tuple (hands rows), hand part] := by
  rw [hand_ref hg hr, turn_ref]
theorem Who.rot {x : Str} (h : Who x) : Who (rot x) := by
  cases h
  · exact (show Mine.rot (Str.ofString "A") = Str.ofString "B" by decide +kernel) ▸ .B
  · exact (show Mine.rot (Str.ofString "B") = Str.ofString "C" by decide +kernel) ▸ .C
  · exact (show Mine.rot (Str.ofString "C") = Str.ofString "A" by decide +kernel) ▸ .A
theorem Who.tor {x : Str} (h : Who x) : tor (Mine.rot x) = x := by cases h <;> decide +kernel
/-- the parts of a reference that lies well -/
theorem ref_parts {lo hi n : Nat} {ds : List Dat} (h2 : ∀ e ∈ ds, Good lo hi n e) (h : RefL lo hi ds) : ∃ (who : Str) (gs : List Str) (rows : List Dat) (part : Dat), ds = [.str (Str.ofString "ref"), .str who, .tuple (gs.map Dat.str), .tuple rows, part] ∧ Who who ∧ lo ≤ gs.length ∧ gs.length ≤ hi ∧ rows.length ≤ 4 ∧
    0 < n ∧ Good lo hi n (.tuple rows) ∧ (∀ e ∈ rows, Good lo hi n e) ∧ Good lo hi n part := by
  obtain ⟨who, gs, rows, part, rfl, hw, h1, h3, h4⟩ := h
  have hr : Good lo hi n (.tuple rows) := h2 _ (by simp)
  refine ⟨who, gs, rows, part, rfl, hw, h1, h3, h4, ?_, hr, hr.items, h2 _ (by simp)⟩
  cases n with
  | zero => nomatch hr
  | succ n => exact Nat.succ_pos _

theorem exch_turn {lo hi : Nat} (hhi : hi ≤ 4) : ∀ (n : Nat) {d : Dat}, Good lo hi n d → exch turnD d = hand d
  | 0, d, h => by rw [exch_atom _ h, hand_atom h]
  | n + 1, d, .inl h => by rw [exch_atom _ h, hand_atom h]
  | n + 1, _, .inr ⟨ds, rfl, h1, h2, h3⟩ => by
    by_cases h5 : ds.length = 5
    · obtain ⟨who, gs, rows, part, rfl, hw, _, g2, g3, _, _, hr, hp⟩ := ref_parts h2 (h3 h5)
      rw [exch_ref _ (by omega) g3, hand_ref (by omega) g3, exch_turn hhi n hp, exchs_map, hands_map, List.map_congr_left fun x hx => exch_turn hhi n (hr x hx)]
    · rw [exch_tuple_ne _ h5, hand_tuple_ne h5, exchs_map, hands_map, List.map_congr_left fun x hx => exch_turn hhi n (h2 x hx)]
theorem good_hand {lo hi : Nat} (hhi : hi ≤ 3) : ∀ (n : Nat) {d : Dat}, Good lo hi n d → Good (lo + 1) (hi + 1) n (hand d)
  | 0, d, h => by rw [hand_atom h]; exact h
  | n + 1, d, .inl h => by rw [hand_atom h]; exact .inl h
  | n + 1, _, .inr ⟨ds, rfl, h1, h2, h3⟩ => by
    by_cases h5 : ds.length = 5
    · obtain ⟨who, gs, rows, part, rfl, hw, g1, g2, g3, hn, hr, _, hp⟩ := ref_parts h2 (h3 h5)
      obtain ⟨m, rfl⟩ : ∃ m, n = m + 1 := ⟨n - 1, by omega⟩
      rw [hand_is (by omega) g3]
      have hr' := good_hand hhi (m + 1) hr
      rw [hand_tuple_ne (by omega)] at hr'
      refine .inr ⟨_, rfl, by simp, ?_, fun _ => ⟨rot who, gs ++ [Str.ofString "T"], _, _, rfl, hw.rot, by rw [List.length_append, List.length_singleton]; omega, by rw [List.length_append, List.length_singleton]; omega, by rw [hands_length]; exact g3⟩⟩
      refine List.forall_mem_cons.mpr ⟨.inl (.str _), List.forall_mem_cons.mpr ⟨.inl (.str _), List.forall_mem_cons.mpr ⟨?_, List.forall_mem_cons.mpr ⟨hr', List.forall_mem_cons.mpr ⟨good_hand hhi _ hp, fun _ h => nomatch h⟩⟩⟩⟩⟩
      refine .inr ⟨_, rfl, by simp only [List.length_map, List.length_append, List.length_singleton]; omega, fun e he => ?_, fun h => by simp only [List.length_map, List.length_append, List.length_singleton] at h; omega⟩
      obtain ⟨x, _, rfl⟩ := List.mem_map.mp he
      exact Good.le (n := 0) (Atom.str x) (Nat.zero_le _)
    · rw [hand_tuple_ne h5]
      refine .inr ⟨_, rfl, by rw [hands_length]; exact h1, fun e he => ?_, fun h => absurd (by rw [hands_length] at h; exact h) h5⟩
      rw [hands_map] at he
      obtain ⟨x, hx, rfl⟩ := List.mem_map.mp he
      exact good_hand hhi n (h2 x hx)
theorem exch_back {lo hi : Nat} (hhi : hi ≤ 3) : ∀ (n : Nat) {d : Dat}, Good lo hi n d → exch contD (hand d) = d
  | 0, d, h => by rw [hand_atom h, exch_atom _ h]
  | n + 1, d, .inl h => by rw [hand_atom h, exch_atom _ h]
  | n + 1, _, .inr ⟨ds, rfl, h1, h2, h3⟩ => by
    have all : ∀ l : List Dat, (∀ e ∈ l, Good lo hi n e) → exchs contD (hands l) = l := fun l hl => by
      rw [exchs_map, hands_map, List.map_map]
      exact (List.map_congr_left (g := id) fun x hx => exch_back hhi n (hl x hx)).trans (List.map_id _)
    by_cases h5 : ds.length = 5
    · obtain ⟨who, gs, rows, part, rfl, hw, g1, g2, g3, _, _, hr, hp⟩ := ref_parts h2 (h3 h5)
      rw [hand_is (by omega) g3, exch_ref _ (by rw [List.length_append, List.length_singleton]; omega) (by rw [hands_length]; exact g3), all rows hr, exch_back hhi n hp, contD, hw.tor, List.map_append, List.map_singleton, List.dropLast_concat]
    · rw [hand_tuple_ne h5, exch_tuple_ne _ (by rw [hands_length]; exact h5), all ds h2]
theorem atom_refs {d : Dat} (h : Atom d) : refs d = [] := by cases h <;> simp [refs]
theorem refs_hand {lo hi : Nat} (hhi : hi ≤ 3) : ∀ (n : Nat) {d : Dat}, Good lo hi n d → refs (hand d) = (refs d).map hand
  | 0, d, h => by rw [hand_atom h, atom_refs h]; rfl
  | n + 1, d, .inl h => by rw [hand_atom h, atom_refs h]; rfl
  | n + 1, _, .inr ⟨ds, rfl, h1, h2, h3⟩ => by
    have all : ∀ l : List Dat, (∀ e ∈ l, Good lo hi n e) → refss (hands l) = (refss l).map hand := fun l => by
      induction l with
      | nil => intro _; simp only [hands, refss, List.map_nil]
      | cons x l ih => intro hl; simp only [hands, refss, List.map_append]; rw [refs_hand hhi n (hl x List.mem_cons_self), ih fun e he => hl e (List.mem_cons_of_mem _ he)]
    by_cases h5 : ds.length = 5
    · obtain ⟨who, gs, rows, part, rfl, hw, g1, g2, g3, _, _, hr, hp⟩ := ref_parts h2 (h3 h5)
      rw [refs_ref (by omega) g3, List.map_cons, hand_is (by omega) g3, refs_ref (by rw [List.length_append, List.length_singleton]; omega) (by rw [hands_length]; exact g3), List.map_append (f := hand), all rows hr, refs_hand hhi n hp]
    · rw [hand_tuple_ne h5, refs, isRefD_ne (by rw [hands_length]; exact h5), refs, isRefD_ne h5, all ds h2]
      simp
theorem sz_hand {lo hi : Nat} (hhi : hi ≤ 3) : ∀ (n : Nat) {d : Dat}, Good lo hi n d → sz (hand d) ≤ 2 * sz d
  | 0, d, h => by rw [hand_atom h]; omega
  | n + 1, d, .inl h => by rw [hand_atom h]; omega
  | n + 1, _, .inr ⟨ds, rfl, h1, h2, h3⟩ => by
    have all : ∀ l : List Dat, (∀ e ∈ l, Good lo hi n e) → szs (hands l) ≤ 2 * szs l := fun l => by
      induction l with
      | nil => intro _; simp only [hands, szs]; omega
      | cons x l ih => 
        intro hl
        have := sz_hand hhi n (hl x List.mem_cons_self)
        have := ih fun e he => hl e (List.mem_cons_of_mem _ he)
        simp only [hands, szs]; omega
    by_cases h5 : ds.length = 5
    · obtain ⟨who, gs, rows, part, rfl, hw, g1, g2, g3, _, _, hr, hp⟩ := ref_parts h2 (h3 h5)
      have := all rows hr
      have := sz_hand hhi n hp
      rw [hand_is (by omega) g3]
      simp only [sz, szs, szs_strs, List.length_append, List.length_singleton]
      omega
    · have := all ds h2
      rw [hand_tuple_ne h5]
      simp only [sz]; omega

/-- an expression whose leaves are changed -/
noncomputable def Ex.turn : Ex → Ex
  | .leaf d => .leaf (hand d)
  | .neg e => .neg e.turn
  | .add a b => .add a.turn b.turn
theorem Ex.turn_dat : ∀ e : Ex, e.turn.dat = hand e.dat
  | .leaf d => rfl
  | .neg e => by rw [Ex.turn, Ex.dat, Ex.dat, hand_tuple_ne (by simp), Ex.turn_dat e]; simp only [hands, hand]
  | .add a b => by rw [Ex.turn, Ex.dat, Ex.dat, hand_tuple_ne (by simp), Ex.turn_dat a, Ex.turn_dat b]; simp only [hands, hand]
theorem Ex.turn_w : ∀ e : Ex, e.turn.w = e.w
  | .leaf d => rfl
  | .neg e => by rw [Ex.turn, Ex.w, Ex.w, Ex.turn_w e]
  | .add a b => by rw [Ex.turn, Ex.w, Ex.w, Ex.turn_w a, Ex.turn_w b]
theorem Ex.turn_lvs : ∀ e : Ex, e.turn.lvs = e.lvs.map hand
  | .leaf d => rfl
  | .neg e => by rw [Ex.turn, Ex.lvs, Ex.lvs, Ex.turn_lvs e]
  | .add a b => by rw [Ex.turn, Ex.lvs, Ex.lvs, Ex.turn_lvs a, Ex.turn_lvs b, List.map_append]
theorem Ex.w_sz : ∀ e : Ex, e.w ≤ sz e.dat
  | .leaf d => by rw [Ex.w, Ex.dat]; exact sz_pos d
  | .neg e => by have := Ex.w_sz e; simp only [Ex.w, Ex.dat, sz, szs]; omega
  | .add a b => by have := Ex.w_sz a; have := Ex.w_sz b; simp only [Ex.w, Ex.dat, sz, szs]; omega
/-- each leaf of an expression lies well -/
theorem Ex.leaves_good {lo hi : Nat} : ∀ (e : Ex) {n : Nat}, Good lo hi n e.dat → ∀ d ∈ e.lvs, Good lo hi n d
  | .leaf d, n, h, x, hx => by rw [List.mem_singleton.mp hx]; exact h
  | .neg e, n, h, x, hx => Ex.leaves_good e (h.items _ (by simp)) x hx
  | .add a b, n, h, x, hx => (List.mem_append.mp hx).elim (Ex.leaves_good a (h.items _ (by simp)) x) (Ex.leaves_good b (h.items _ (by simp)) x)
theorem Ex.leaves_ok : ∀ (e : Ex), e.Ok → ∀ d ∈ e.lvs, LeafOk d
  | .leaf d, h, x, hx => by rw [List.mem_singleton.mp hx]; exact h
  | .neg e, h, x, hx => Ex.leaves_ok e h x hx
  | .add a b, h, x, hx => (List.mem_append.mp hx).elim (Ex.leaves_ok a h.1 x) (Ex.leaves_ok b h.2 x)
theorem nx_rot {x : Str} (h : Who x) : nxB (rot x) = nxA x := by cases h <;> decide +kernel
/-- a leaf that is changed: a leaf again, and worth the same under the other names -/
theorem leaf_hand {lo hi n : Nat} (hhi : hi ≤ 3) {d : Dat} (h : LeafOk d) (hg : Good lo hi n d) : LeafOk (hand d) ∧ numD nxB (hand d) = numD nxA d := by
  obtain ⟨⟨x, ds, e, hx, hz⟩, hv⟩ := h
  cases hv with
  | ref who d2 d3 d4 hw =>
    cases n with
    | zero => nomatch hg
    | succ n =>
    rcases hg with hg | ⟨ds', e', h1, h2, h3⟩
    · nomatch hg
    cases e'
    obtain ⟨who', gs, rows, part, e2, hw', g1, g2, g3, _, _, hr, hp⟩ := ref_parts h2 (h3 rfl)
    simp only [List.cons.injEq, Dat.str.injEq, and_true, true_and] at e2
    obtain ⟨rfl, rfl, rfl, rfl⟩ := e2
    rw [hand_is (by omega) g3]
    refine ⟨⟨⟨_, _, rfl, .ref, by simp⟩, .ref _ _ _ _ hw.rot⟩, ?_⟩
    rw [numD, numD, if_pos rfl, if_pos rfl, nx_rot hw]
  | number i =>
    have e1 : hand (.tuple [.str (Str.ofString "number"), .tuple [.int i, .int 0]]) = .tuple [.str (Str.ofString "number"), .tuple [.int i, .int 0]] := by
      rw [hand_tuple_ne (by simp)]; simp only [hands]; rw [hand_tuple_ne (by simp)]; simp only [hands, hand]
    rw [e1]
    exact ⟨⟨⟨_, _, rfl, .number, by simp⟩, .number i⟩, by rw [numD, numD]⟩
  | text b =>
    have e1 : hand (.tuple [.str (Str.ofString "text"), .bytes b]) = .tuple [.str (Str.ofString "text"), .bytes b] := by
      rw [hand_tuple_ne (by simp)]; simp only [hands, hand]
    rw [e1]
    exact ⟨⟨⟨_, _, rfl, .text, by simp⟩, .text b⟩, by simp [numD]⟩
  | figure y =>
    have e1 : hand (.tuple [.str (Str.ofString "figure"), .str y]) = .tuple [.str (Str.ofString "figure"), .str y] := by
      rw [hand_tuple_ne (by simp)]; simp only [hands, hand]
    have ne : Str.ofString "figure" ≠ Str.ofString "ref" := by decide +kernel
    rw [e1]
    exact ⟨⟨⟨_, _, rfl, .figure, by simp⟩, .figure y⟩, by rw [numD, numD, if_neg ne, if_neg ne]⟩
theorem Ex.turn_ok {lo hi : Nat} (hhi : hi ≤ 3) : ∀ (e : Ex) {n : Nat}, e.Ok → Good lo hi n e.dat → e.turn.Ok ∧ e.turn.val nxB = e.val nxA
  | .leaf d, n, h, hg => leaf_hand hhi h hg
  | .neg e, n, h, hg => by
    obtain ⟨h1, h2⟩ := Ex.turn_ok hhi e h (hg.items _ (by simp))
    exact ⟨h1, by rw [Ex.turn, Ex.val, Ex.val, h2]⟩
  | .add a b, n, h, hg => by
    obtain ⟨h1, h2⟩ := Ex.turn_ok hhi a h.1 (hg.items _ (by simp))
    obtain ⟨h3, h4⟩ := Ex.turn_ok hhi b h.2 (hg.items _ (by simp))
    exact ⟨⟨h1, h3⟩, by rw [Ex.turn, Ex.val, Ex.val, h2, h4]⟩
end
section
section
variable {prog : Program} {w : World} {A : Around} {s : Shared} {h₀ : Heap} {news : Ledger} {K : Frag} {p : Program} {loose : List Str} {mean : ExcName → Option Value} {mg mb : Str → Option Value}
  {name qual : Str} {params : Arguments} {body : Expr} {scope : Scope} {cl : List (Str × Addr)} {pm ctv : Value} {c' f : Addr} {oc : Obj} {cvs : Array Value} {ct : Tok} {vals : List Value} {binds : List (Str × Value)} {Q E : Value → Shared → Prop}
/-- into a lambda that the ledger names -/
theorem enterL (X : K.In h₀) (T : Top p loose mean mg mb h₀) (D : Led h₀ s.heap news) (ho : (f, kla_obj name qual params body scope cl pm c' ctv) ∈ news) (hc : (c', oc) ∈ news) (hd : oc.data = .fields cvs) (hv : cvs[1]? = some (.str qual ct)) (hroom : A.depth < recursionLimit)
    (hbind : bindArgs (kla_fn name qual params body scope cl pm (.ref c') ctv) ⟨vals, []⟩ = pure binds) (hloc : ∀ y ∈ binds, scope.names.lookup y.1 = some .local)
    (h : ∀ g L' h₁, Fr g L' h₁ (fun y => binds.reverse.lookup y) → News g L' h₁ news → K.In g → Top p loose mean mg mb g → (∀ p ∈ news, p.1 < L') →
      wpAny (model prog w) (A.deeper (envX qual scope L' f (.ref c') cl)) (eval body (envX qual scope L' f (.ref c') cl)) (fun v s' => Back g L' s.heap news Q v s') (fun _ _ => False) { s with heap := h₁, toks := s.toks + binds.length })
    (hco : scope.isCoroutine = false) (hgen : scope.isGenerator = false) (hk : scope.kind = .function)
    (hcell : ∀ x ∈ scope.names, x.2 ≠ .cell) : wpAny (model prog w) A (call (.ref f) vals) Q E s := by
  refine wpAny_call ?_
  have st : h₀.StaysIn (hideAll s.heap (news.map (·.1))) := fun b o e => hideAll_get _ (D.keep b o e) (D.not e)
  refine kla_callFunE hroom (D.here _ ho).1 rfl hco hgen rfl ⟨c', oc, cvs, ct, rfl, (D.here _ hc).1, hd, hv⟩ ?_
  rw [hbind]
  refine wpAny_pure (wpAny_newFunctionEnv hcell hloc (fun h₁ hns hsb => ⟨((T.nolimit).keeps D.keep).fresh _ hsb, ?_⟩) hk)
  show codeAny _ _ (.expr body (envX qual scope s.heap.objs.size f (.ref c') cl)) _ _
  have hk₁ : ∀ b o, s.heap.get? b = some o → h₁.get? b = some o := fun b o e => hsb.extBut b o (Nat.ne_of_lt (Heap.lt_size e)) (Heap.get?_push_of_some _ e)
  refine kla_codeExpr (wpAny_mono (h _ s.heap.objs.size h₁ ⟨hns, fun b o e => hk₁ b o (of_hideAll _ e), Nat.le_of_eq (hideAll_size _ _)⟩
    (fun p hp => ⟨hk₁ _ _ (D.here p hp).1, Nat.ne_of_lt (Heap.lt_size (D.here p hp).1), hideAll_none _ (List.mem_map_of_mem hp)⟩) (X.keeps st) (T.keeps st) (fun p hp => Heap.lt_size (D.here p hp).1)) (fun v s' hl => ?_) fun _ _ y => y.elim)
  obtain ⟨m', news', F', N', k⟩ := hl
  exact k (back_step rfl F' N')
end

section
variable {w : World} {p : Program} {loose : List Str} {mean : ExcName → Option Value} {mg mb : Str → Option Value}
/-- what the two lambdas answer -/
theorem num_lam {p0 p1 p2 p3 p4 : Pos} {qual nm : Str} {nx : Str → Int} {pm ctv : Value} {c' f : Addr} {oc : Obj} {cvs : Array Value} {ct : Tok} (hd : oc.data = .fields cvs) (hv : cvs[1]? = some (.str qual ct)) (hn : (nm = Str.ofString "BCA" ∧ nx = nxB) ∨ (nm = Str.ofString "ABC" ∧ nx = nxA)) :
    NumOk w p loose mean mg mb f [(f, kla_obj (Str.ofString "<lambda>") qual { posonlyargs := [], args := [{ arg := Str.ofString "operand", annotation := none, pos := p0 }], vararg := none, kwonlyargs := [], kw_defaults := [], kwarg := none, defaults := [] }
      (.Call (.Name (Str.ofString "_law_number") p1) [.Name (Str.ofString "operand") p2, .Constant (.str nm) 0 p3] [] p4)
      { kind := .function, names := [(Str.ofString "operand", .local), (Str.ofString "_law_number", .globalImplicit)], isGenerator := false, isCoroutine := false } [] pm c' ctv), (c', oc)] nx := by
  intro dp un fr gd s h₀ news Q E v d X T D hreq hdp hu hdv hlv ret
  refine enterL (cvs := cvs) (ct := ct) X T D (hreq _ List.mem_cons_self) (hreq _ (List.mem_cons_of_mem _ List.mem_cons_self)) hd hv (by show dp < recursionLimit; omega) rfl (locs rfl) ?_ rfl rfl rfl (by decide)
  intro g L' h₁ F1 N1 X' T' l1
  walk_at "my steps"
  refine c_number X' T' (Led.of F1 N1) (room1 hdp rfl) (room0 (x := un) hu rfl) hdv hlv hn fun r5 h5 tk5 tl5 S5 tp5 hd5 => ?_
  obtain ⟨F5, N5⟩ := S5.fr F1 N1
  walk_at "my steps"
  exact Back.mk F5 N5 fun S => ret _ _ _ _ S tp5 hd5
end

/-- a code object of the lambdas -/
def CodeAt (q : Str) (nw : Ledger) (c : Addr) : Prop := ∃ oc vs t, (c, oc) ∈ nw ∧ oc.data = .fields vs ∧ vs[1]? = some (.str q t)
theorem CodeAt.mono {q : Str} {nw nw' : Ledger} {c : Addr} (h : CodeAt q nw c) (hs : ∀ p ∈ nw, p ∈ nw') : CodeAt q nw' c := by
  obtain ⟨oc, vs, t, h1, h2⟩ := h
  exact ⟨oc, vs, t, hs _ h1, h2⟩
/-- the table of _law_worths_stay's code: its lambdas not made, or made -/
def TabW (q : Str) (nw : Ledger) (ps : Array Value) : Prop := ps = #[] ∨ ∃ c1 c2, ps = #[rawInt 183, rawInt 0, .ref c1, rawInt 184, rawInt 0, .ref c2] ∧ CodeAt q nw c1 ∧ CodeAt q nw c2
def TabM (q : Str) (nw : Ledger) (ps : Array Value) : Prop := ∃ c1, CodeAt q nw c1 ∧ (ps = #[rawInt 183, rawInt 0, .ref c1] ∨ ∃ c2, ps = #[rawInt 183, rawInt 0, .ref c1, rawInt 184, rawInt 0, .ref c2] ∧ CodeAt q nw c2)
theorem TabW.mono {q : Str} {nw nw' : Ledger} {ps : Array Value} (h : TabW q nw ps) (hs : ∀ p ∈ nw, p ∈ nw') : TabW q nw' ps := by
  rcases h with rfl | ⟨c1, c2, rfl, h1, h2⟩
  · exact .inl rfl
  · exact .inr ⟨c1, c2, rfl, h1.mono hs, h2.mono hs⟩
theorem TabM.mono {q : Str} {nw nw' : Ledger} {ps : Array Value} (h : TabM q nw ps) (hs : ∀ p ∈ nw, p ∈ nw') : TabM q nw' ps := by
  obtain ⟨c1, h1, rfl | ⟨c2, rfl, h2⟩⟩ := h
  · exact ⟨c1, h1.mono hs, .inl rfl⟩
  · exact ⟨c1, h1.mono hs, .inr ⟨c2, rfl, h2.mono hs⟩⟩
section
variable {M : Model} {A : Around} {E : Value → Shared → Prop} {s : Shared} {h₀ : Heap} {L a c P : Addr} {m mg mb : Str → Option Value} {cn : Str} {cs : Scope} {ccd : Value} {cl : List (Str × Addr)} {rest : Ledger}
  {p : Program} {loose : List Str} {mean : ExcName → Option Value} {name qual : Str} {params : Arguments} {body : Expr} {scope : Scope} {ps : Array Value} {pos : Pos} {firstLine : Nat} {clos : List (Str × Addr)} {Q : Value → Shared → Prop}
theorem lt_off {P : Addr} {q : Addr × Obj} {rest : Ledger} (hq : ∀ x ∈ (P, (tabObj ps)) :: rest, x.1 < q.1) : ∀ x ∈ [q], x.1 ≠ P := fun x hx => by
  rw [List.mem_singleton.mp hx]; exact Nat.ne_of_gt (hq _ List.mem_cons_self)
theorem m_lam1 (F : Fr h₀ L s.heap m) (N : News h₀ L s.heap ((P, tabObj ps) :: rest)) (T : Top p loose mean mg mb h₀) (C : CodeHd h₀ c P) (hcd : ccd = .ref c) (off : ∀ q ∈ rest, q.1 ≠ P) (hT : TabW qual rest ps) (hp : pos.line = 183 ∧ pos.col = 0)
    (hcl : closureFor scope (envX cn cs L a ccd cl) = pure clos)
    (h : ∀ f c' oc vs t pm ctv ps' tl h' tk, Fr h₀ L h' m → News h₀ L h' ((f, kla_obj name qual params body scope clos pm c' ctv) :: (P, tabObj ps') :: (tl ++ rest)) → (c', oc) ∈ tl ++ rest → oc.data = .fields vs → vs[1]? = some (.str qual t) → TabM qual (tl ++ rest) ps' → (∀ q ∈ tl, q.1 ≠ P) → f ≠ P →
      Q (.ref f) { s with heap := h', toks := tk }) :
    wpAny M A (makeFunction name qual params (.expr body) scope (envX cn cs L a ccd cl) [] [] [] pos firstLine) Q E s := by
  obtain ⟨line, col, e1, e2⟩ := pos
  obtain ⟨rfl, rfl⟩ := hp
  rcases hT with rfl | ⟨c1, c2, rfl, ⟨oc, vs, t, h1, hd, hv⟩, h2⟩
  · refine kla_nest F N T C hcd (.head off) True.intro rfl hcl fun f c' oc vs t ctv h' tk F' N' hd hv l1 l2 => ?_
    refine h f c' oc vs t _ ctv _ [(c', oc)] h' tk F' (news_swap2 N') List.mem_cons_self hd hv ⟨c', ⟨oc, vs, t, List.mem_cons_self, hd, hv⟩, .inl (by simp)⟩ (lt_off l1) ?_
    exact Nat.ne_of_gt (Nat.lt_trans (l1 _ List.mem_cons_self) l2)
  · refine kla_hit (c' := c1) F N T C hcd (ps := #[rawInt 183, rawInt 0, .ref c1, rawInt 184, rawInt 0, .ref c2]) List.mem_cons_self (by simp [TriplesOk, rawInt]) (by simp [codeAmong, rawInt]) hcl fun f ctv h' tk F' N' l1 => ?_
    exact h f c1 oc vs t _ ctv _ [] h' tk F' N' h1 hd hv ⟨c1, ⟨oc, vs, t, h1, hd, hv⟩, .inr ⟨c2, rfl, h2⟩⟩ (fun _ h => nomatch h) (Nat.ne_of_gt (l1 _ List.mem_cons_self))
theorem m_lam2 (F : Fr h₀ L s.heap m) (N : News h₀ L s.heap ((P, tabObj ps) :: rest)) (T : Top p loose mean mg mb h₀) (C : CodeHd h₀ c P) (hcd : ccd = .ref c) (off : ∀ q ∈ rest, q.1 ≠ P) (hT : TabM qual rest ps) (hp : pos.line = 184 ∧ pos.col = 0)
    (hcl : closureFor scope (envX cn cs L a ccd cl) = pure clos)
    (h : ∀ f c' oc vs t pm ctv ps' tl h' tk, Fr h₀ L h' m → News h₀ L h' ((f, kla_obj name qual params body scope clos pm c' ctv) :: (P, tabObj ps') :: (tl ++ rest)) → (c', oc) ∈ tl ++ rest → oc.data = .fields vs → vs[1]? = some (.str qual t) → TabW qual (tl ++ rest) ps' → (∀ q ∈ tl, q.1 ≠ P) → f ≠ P →
      Q (.ref f) { s with heap := h', toks := tk }) :
    wpAny M A (makeFunction name qual params (.expr body) scope (envX cn cs L a ccd cl) [] [] [] pos firstLine) Q E s := by
  obtain ⟨line, col, e1, e2⟩ := pos
  obtain ⟨rfl, rfl⟩ := hp
  obtain ⟨c1, h1, rfl | ⟨c2, rfl, ⟨oc, vs, t, h2, hd, hv⟩⟩⟩ := hT
  · refine kla_nest F N T C hcd (.head off) (by simp [TriplesOk, rawInt]) (by simp [codeAmong, rawInt]) hcl fun f c' oc vs t ctv h' tk F' N' hd hv l1 l2 => ?_
    refine h f c' oc vs t _ ctv _ [(c', oc)] h' tk F' (news_swap2 N') List.mem_cons_self hd hv (.inr ⟨c1, c', by simp, h1.mono fun q hq => List.mem_cons_of_mem _ hq, ⟨oc, vs, t, List.mem_cons_self, hd, hv⟩⟩) (lt_off l1) ?_
    exact Nat.ne_of_gt (Nat.lt_trans (l1 _ List.mem_cons_self) l2)
  · refine kla_hit (c' := c2) F N T C hcd (ps := #[rawInt 183, rawInt 0, .ref c1, rawInt 184, rawInt 0, .ref c2]) List.mem_cons_self (by simp [TriplesOk, rawInt]) (by simp [codeAmong, rawInt]) hcl fun f ctv h' tk F' N' l1 => ?_
    exact h f c2 oc vs t _ ctv _ [] h' tk F' N' h2 hd hv (.inr ⟨c1, c2, rfl, h1, ⟨oc, vs, t, h2, hd, hv⟩⟩) (fun _ h => nomatch h) (Nat.ne_of_gt (l1 _ List.mem_cons_self))
end
end
section
theorem Step.aside {h h' : Heap} {news news' : Ledger} {q : Addr × Obj} (S : Step h h' news news') (e : h.get? q.1 = some q.2) (hn : q.1 ∉ news.map (·.1)) : Step h h' (q :: news) (q :: news') := by
  refine ⟨fun b o hb e' => S.keep b o (fun z => hb (List.mem_cons_of_mem _ z)) e', fun p hp => ?_, fun p hp => ?_⟩
  · rcases List.mem_cons.mp hp with rfl | hp
    · exact S.keep _ _ hn e
    · exact S.here p hp
  · rcases List.mem_cons.mp hp with rfl | hp
    · exact .inl List.mem_cons_self
    · exact (S.new p hp).imp (fun z => List.mem_cons_of_mem _ z) fun z => z
theorem aside {h₀ h h' : Heap} {L : Addr} {m : Str → Option Value} {news news' : Ledger} {q : Addr × Obj} (S : Step h h' news news') (F : Fr h₀ L h m) (N : News h₀ L h (q :: news)) (hn : q.1 ∉ news.map (·.1)) : Fr h₀ L h' m ∧ News h₀ L h' (q :: news') ∧ q.1 ∉ news'.map (·.1) :=
  ⟨(S.fr F fun p hp => N p (List.mem_cons_of_mem _ hp)).1, step_aside S F N hn⟩
theorem news_tail {h₀ h : Heap} {L : Addr} {q : Addr × Obj} {news : Ledger} (N : News h₀ L h (q :: news)) : News h₀ L h news := fun p hp => N p (List.mem_cons_of_mem _ hp)
theorem Good.wide {lo hi lo' hi' : Nat} (hl : lo' ≤ lo) (hh : hi ≤ hi') : ∀ {n : Nat} {d : Dat}, Good lo hi n d → Good lo' hi' n d
  | 0, _, h => h
  | _ + 1, _, .inl h => .inl h
  | _ + 1, _, .inr ⟨ds, e, h1, h2, h3⟩ => .inr ⟨ds, e, h1, fun x hx => Good.wide hl hh (h2 x hx), fun h5 => by
    obtain ⟨who, gs, rows, part, e, hw, g1, g2, g3⟩ := h3 h5
    exact ⟨who, gs, rows, part, e, hw, Nat.le_trans hl g1, Nat.le_trans g2 hh, g3⟩⟩
local macro_rules | `(tactic| walk_at "eval Lambda") => `(tactic| refine stop_here ?_)
theorem Ex.lvs_len : ∀ e : Ex, e.lvs.length ≤ e.w
  | .leaf d => Nat.le_refl _
  | .neg e => by have := Ex.lvs_len e; simp only [Ex.lvs, Ex.w]; omega
  | .add a b => by have := Ex.lvs_len a; have := Ex.lvs_len b; simp only [Ex.lvs, Ex.w, List.length_append]; omega
theorem suf_app {a b r : Ledger} (h : r <:+ b) : r <:+ a ++ b := h.trans (List.suffix_append a b)
theorem suf_cons {q : Addr × Obj} {b r : Ledger} (h : r <:+ b) : r <:+ q :: b := h.trans (List.suffix_cons q b)
theorem end_w {h₀ h : Heap} {L : Addr} {q : Addr × Obj} {nw rest : Ledger} {qu : Str} {ps : Array Value} {goal : Prop} (N : News h₀ L h (q :: nw)) (sx : rest <:+ nw) (hT : TabW qu nw ps) (hn : 233 ∉ nw.map (·.1))
    (k : ∀ tlA, News h₀ L h (q :: (tlA ++ rest)) → TabW qu (tlA ++ rest) ps → 233 ∉ (tlA ++ rest).map (·.1) → goal) : goal := by
  obtain ⟨tlA, rfl⟩ := sx
  exact k tlA N hT hn
noncomputable abbrev lamQ : Str := Str.ofString "_law_worths_stay.<locals>.<lambda>"
section
variable {w : World} {dp un : Nat} {fr : Option (List Env)} {gd : Option (List Code)} {s : Shared} {h₀ : Heap} {rest : Ledger} {p : Program} {loose : List Str} {mean : ExcName → Option Value} {mg mb : Str → Option Value} {Q E : Value → Shared → Prop}
theorem c_worths {v : Value} {e : Ex} {ps : Array Value} (X : (Mine.hd.heap_1 w.params).In h₀) (T : Top p loose mean mg mb h₀) (HC : CodeHd h₀ 235 233) (D : Led h₀ s.heap ((233, tabObj ps) :: rest)) (hT : TabW lamQ rest ps) (off : 233 ∉ rest.map (·.1))
    (hd : dp + 200 < recursionLimit) (hu : un + 1500 < cLine) (hv : DatIn rest v e.dat) (hok : e.Ok) (hg : Good 0 1 6 e.dat) (hz : sz e.dat ≤ 1000)
    (ret : ∀ h' tk' ps' tl, Step s.heap h' ((233, tabObj ps) :: rest) ((233, tabObj ps') :: (tl ++ rest)) → TabW lamQ (tl ++ rest) ps' → 233 ∉ (tl ++ rest).map (·.1) → Q (.bool true) { s with heap := h', toks := tk' }) :
    wpAny (model PySem.Challenge.rw_pb0239_01.row.prog w) (ar dp un fr gd) (call (.ref 236) [v]) Q E s := by
  walk_at "my enterS"
  rename (∀ b o, h₀.get? b = some o → _) => st9
  have HC' := CodeHd.keeps HC st9
  walk_at "my steps"
  rename Fr _ _ _ _ => F4
  rename News _ _ _ _ => N4
  rename Frag.In _ _ => X'
  rename Top _ _ _ _ _ _ => T'
  refine c_exch turn_ok (by omega) rfl 6 (hg.wide (Nat.le_refl _) (by omega)) X' T' (Led.of F4 (news_tail N4)) (roomE (x := dp) hd rfl) (roomE (x := un) hu rfl) hv fun r5 h5 tk5 tl5 S5 hd5 => ?_
  obtain ⟨F5, N5, n5⟩ := aside S5 F4 N4 off
  clear F4 N4 S5
  rw [exch_turn (by omega) 6 hg, ← Ex.turn_dat] at hd5
  obtain ⟨hok', hval⟩ := Ex.turn_ok (by omega) e hok hg
  walk_at "my steps"
  rename Fr _ _ _ _ => F6
  rename News _ _ _ _ => N6
  have hw := e.w_sz
  refine c_leaves X' T' (Led.of F6 (news_tail N6)) (room1 hd rfl) (room0 (x := un) hu rfl) hd5 hok' (by rw [Ex.turn_w]; omega) fun l7 lk7 ys7 h7 tk7 tl7 S7 hl7 hd7 => ?_
  obtain ⟨F7, N7, n7⟩ := aside S7 F6 N6 n5
  clear F6 N6 S7
  walk_at "my steps"
  rename Fr _ _ _ _ => F8
  rename News _ _ _ _ => N8
  refine c_leaves X' T' (Led.of F8 (news_tail N8)) (room1 hd rfl) (room0 (x := un) hu rfl) (hv.mono fun q hq => List.mem_append_right _ (List.mem_append_right _ hq)) hok (by omega) fun l9 lk9 ys9 h9 tk9 tl9 S9 hl9 hd9 => ?_
  obtain ⟨F9, N9, n9⟩ := aside S9 F8 N8 n7
  clear F8 N8 S9
  walk_at "my steps"
  have hln := e.lvs_len
  have hl9z := hd9.length
  have hsl : sizeLine = 2 ^ 24 := rfl
  refine iter_list (R := fun i ys nw => ∃ tl, nw = (233, tabObj ps) :: (tl ++ (tl9 ++ (tl7 ++ (tl5 ++ rest)))) ∧ 233 ∉ (tl ++ (tl9 ++ (tl7 ++ (tl5 ++ rest)))).map (·.1) ∧ DatAll (tl ++ (tl9 ++ (tl7 ++ (tl5 ++ rest)))) ys ((e.lvs.take i).map hand)) rfl F9 N9 (List.mem_cons_of_mem _ (List.mem_append_left _ hl9)) (by omega) ⟨[], rfl, n9, .nil⟩ ?_ ?_ ?_
  · rintro i ys nw ⟨tl, rfl, _⟩
    exact List.mem_cons_of_mem _ (List.mem_append_right _ (List.mem_append_left _ hl9))
  · rintro C i v ys nw s₃ m₃ hC hvi hi ⟨tl, rfl, hn3, hys⟩ hn hm3 F3 N3 hCn hCL
    walk_at "my steps"
    have hlt : i < e.lvs.length := by
      obtain ⟨q, _⟩ := List.getElem?_eq_some_iff.mp hvi
      omega
    obtain ⟨v', hv', hdv⟩ := hd9.get hlt
    rw [hvi] at hv'; cases hv'
    refine c_hand (by omega) 6 (e.leaves_good hg _ (List.getElem_mem hlt)) X' T' (Led.of F3 (news_tail N3)) (roomE (x := dp) hd rfl) (roomE (x := un) hu rfl) (hdv.mono fun q hq => List.mem_append_right _ hq) fun r h' tk' tl' S Dr => ?_
    have ee : tl' ++ (tl ++ (tl9 ++ (tl7 ++ (tl5 ++ rest)))) = (tl' ++ tl) ++ (tl9 ++ (tl7 ++ (tl5 ++ rest))) := (List.append_assoc _ _ _).symm
    have hn4 := step_not S hn3 (N3 _ List.mem_cons_self).1
    have S' := S.aside (q := (233, tabObj ps)) (N3 _ List.mem_cons_self).1 hn3
    rw [ee] at S' hn4 Dr
    refine ⟨h', tk', _, rfl, S', tl' ++ tl, rfl, hn4, ?_⟩
    rw [List.take_add_one, List.getElem?_eq_getElem hlt, List.map_append]
    exact DatAll.append (hys.mono fun q hq => memc hq) (.one Dr)
  · rintro D h' tk ys nw k' hy ⟨tl, rfl, hn3, hys⟩ F3 N3 hD
    rw [List.take_of_length_le (by omega), ← Ex.turn_lvs] at hys
    refine m_ne_lists (lo := 1) (hi := 2) (n := 6) (ds := e.turn.lvs) N3 (List.mem_cons_of_mem _ (List.mem_cons_of_mem _ (List.mem_append_right _ (List.mem_append_right _ (List.mem_append_left _ hl7))))) List.mem_cons_self ?_ (by dsimp only [ar, Around.deeper]; omega) (hd7.mono fun q hq => List.mem_cons_of_mem _ (List.mem_cons_of_mem _ (List.mem_append_right _ (List.mem_append_right _ hq)))) (hys.mono fun q hq => List.mem_cons_of_mem _ (List.mem_cons_of_mem _ hq)) ?_
    · rw [Ex.turn_lvs]
      intro d hd9
      obtain ⟨d, hd8, rfl⟩ := List.mem_map.mp hd9
      exact good_hand (by omega) 6 (e.leaves_good hg d hd8)
    walk_at "my steps"
    unfold Stop
    refine kla_eval rfl ?_
    have nD : D ≠ 233 := fun q => hD (by rw [q]; exact List.mem_cons_self)
    have hn4 : ∀ q ∈ (D, lstO ys k') :: (tl ++ (tl9 ++ (tl7 ++ (tl5 ++ rest)))), q.1 ≠ 233 := List.forall_mem_cons.mpr ⟨nD, of_not_map hn3⟩
    refine m_lam1 F3 (news_swap N3) T' HC' rfl hn4 (hT.mono fun q hq => List.mem_cons_of_mem _ (List.mem_append_right _ (List.mem_append_right _ (List.mem_append_right _ (List.mem_append_right _ hq))))) ⟨rfl, rfl⟩ rfl fun f10 c10 oc10 vs10 t10 pm10 ct10 ps10 tl10 h10 tk10 F10 N10 hc10 hd10 hv10 hT10 o10 nf10 => ?_
    replace N10 := news_swap N10
    have sx10 : rest <:+ tl10 ++ ((D, lstO ys k') :: (tl ++ (tl9 ++ (tl7 ++ (tl5 ++ rest))))) := suf_app (suf_cons (suf_app (suf_app (suf_app (suf_app (List.suffix_refl _))))))
    have ht10 : ∀ q ∈ tl5 ++ rest, q ∈ tl10 ++ ((D, lstO ys k') :: (tl ++ (tl9 ++ (tl7 ++ (tl5 ++ rest))))) := fun q hq => List.mem_append_right _ (List.mem_cons_of_mem _ (List.mem_append_right _ (List.mem_append_right _ (List.mem_append_right _ hq))))
    have n10 : ∀ q ∈ tl10 ++ ((D, lstO ys k') :: (tl ++ (tl9 ++ (tl7 ++ (tl5 ++ rest))))), q.1 ≠ 233 := fun q hq => (List.mem_append.mp hq).elim (o10 q) (hn4 q)
    clear F3 N3 hys
    generalize tl10 ++ ((D, lstO ys k') :: (tl ++ (tl9 ++ (tl7 ++ (tl5 ++ rest))))) = R10 at *
    walk_at "my steps"
    refine c_reckoned (num_lam hd10 hv10 (.inl ⟨rfl, rfl⟩)) X' T' (Led.of F10 (news_tail N10)) (room1 hd rfl) (room0 (x := un) hu rfl) (List.forall_mem_cons.mpr ⟨List.mem_cons_self, List.forall_mem_cons.mpr ⟨List.mem_cons_of_mem _ hc10, fun _ h => nomatch h⟩⟩) List.mem_cons_self (hd5.mono fun q hq => List.mem_cons_of_mem _ (ht10 q hq)) hok' (by rw [Ex.turn_w]; omega) fun r11 h11 tk11 tl11 S11 hd11 => ?_
    obtain ⟨F11, N11, n11⟩ := aside S11 F10 N10 (not_map (List.forall_mem_cons.mpr ⟨nf10, n10⟩))
    clear F10 N10 S11
    walk_at "my steps"
    unfold Stop
    refine kla_eval rfl ?_
    refine m_lam2 F11 N11 T' HC' rfl (of_not_map n11) (hT10.mono fun q hq => List.mem_append_right _ (List.mem_cons_of_mem _ hq)) ⟨rfl, rfl⟩ rfl fun f12 c12 oc12 vs12 t12 pm12 ct12 ps12 tl12 h12 tk12 F12 N12 hc12 hd12 hv12 hT12 o12 nf12 => ?_
    replace N12 := news_swap N12
    have n12 : ∀ q ∈ tl12 ++ (tl11 ++ _), q.1 ≠ 233 := fun q hq => (List.mem_append.mp hq).elim (o12 q) (of_not_map n11 q)
    clear F11 N11
    walk_at "my steps"
    refine c_reckoned (num_lam hd12 hv12 (.inr ⟨rfl, rfl⟩)) X' T' (Led.of F12 (news_tail N12)) (room1 hd rfl) (room0 (x := un) hu rfl) (List.forall_mem_cons.mpr ⟨List.mem_cons_self, List.forall_mem_cons.mpr ⟨List.mem_cons_of_mem _ hc12, fun _ h => nomatch h⟩⟩) List.mem_cons_self (hv.mono fun q hq => List.mem_cons_of_mem _ (List.mem_append_right _ (List.mem_append_right _ (List.mem_cons_of_mem _ (sx10.subset hq))))) hok (by omega) fun r13 h13 tk13 tl13 S13 hd13 => ?_
    obtain ⟨F13, N13, n13⟩ := aside S13 F12 N12 (not_map (List.forall_mem_cons.mpr ⟨nf12, n12⟩))
    clear F12 N12 S13
    rw [hval] at hd11
    refine m_eq_goods (lo := 0) (hi := 1) (n := 2) N13 (good_two (good_atom (.int _)) (good_atom (.int _))) rfl (by dsimp only [ar, Around.deeper]; omega) (hd11.mono fun q hq => List.mem_cons_of_mem _ (List.mem_append_right _ (List.mem_cons_of_mem _ (List.mem_append_right _ hq)))) (hd13.mono fun q hq => List.mem_cons_of_mem _ hq) ?_
    walk_at "my steps"
    refine end_w N13 (suf_app (suf_cons (suf_app (suf_app (suf_cons sx10))))) (hT12.mono fun q hq => List.mem_append_right _ (List.mem_cons_of_mem _ hq)) n13 fun tlA N13 hT13 n13 => ?_
    exact Back.mk F13 N13 fun S => ret _ _ _ _ S hT13 n13
end
end
section
/-! the conditions -/
noncomputable def Cd.turn : Cd → Cd
  | .one a b => .one a.turn b.turn
  | .two a b c d => .two a.turn b.turn c.turn d.turn
theorem hand_rel (a b : Ex) : hand (relD a b) = relD a.turn b.turn := by
  rw [relD, relD, hand_tuple_ne (by simp), Ex.turn_dat, Ex.turn_dat]; simp only [hands, hand]
theorem Cd.turn_dat : ∀ e : Cd, e.turn.dat = hand e.dat
  | .one a b => by rw [Cd.turn, Cd.dat, Cd.dat, hand_rel]
  | .two a b c d => by
    rw [Cd.turn, Cd.dat, Cd.dat, hand_tuple_ne (by simp)]
    simp only [hands]
    rw [hand_rel, hand_tuple_ne (by simp)]
    simp only [hands]
    rw [hand_rel]; simp only [hand]
theorem good_four {a b c d : Dat} {n : Nat} (ha : Good 0 1 n a) (hb : Good 0 1 n b) (hc : Good 0 1 n c) (hd : Good 0 1 n d) : Good 0 1 (n + 1) (.tuple [a, b, c, d]) :=
  .inr ⟨_, rfl, by simp, List.forall_mem_cons.mpr ⟨ha, List.forall_mem_cons.mpr ⟨hb, List.forall_mem_cons.mpr ⟨hc, List.forall_mem_cons.mpr ⟨hd, fun _ h => nomatch h⟩⟩⟩⟩, fun h => absurd h (by simp)⟩
theorem good_rel {a b : Ex} (ha : Good 0 1 6 a.dat) (hb : Good 0 1 6 b.dat) : Good 0 1 7 (relD a b) := good_four (good_atom (.str _)) (good_atom (.str _)) ha hb
theorem Cd.good : ∀ (e : Cd), (∀ x ∈ e.exs, x.Ok ∧ Good 0 1 6 x.dat ∧ sz x.dat + 4 ≤ 81) → Good 0 1 9 e.dat
  | .one a b, h => Good.le (n := 7) (good_rel (h a (by simp [Cd.exs])).2.1 (h b (by simp [Cd.exs])).2.1) (by omega)
  | .two a b c d, h => good_three (n := 8) (good_atom (.str _)) (Good.le (n := 7) (good_rel (h a (by simp [Cd.exs])).2.1 (h b (by simp [Cd.exs])).2.1) (by omega)) (good_two (good_atom (.str _)) (good_rel (h c (by simp [Cd.exs])).2.1 (h d (by simp [Cd.exs])).2.1))
theorem Cd.szb : ∀ (e : Cd), (∀ x ∈ e.exs, x.Ok ∧ Good 0 1 6 x.dat ∧ sz x.dat + 4 ≤ 81) → sz e.dat ≤ 400
  | .one a b, h => by
    have h1 := (h a (by simp [Cd.exs])).2.2
    have h2 := (h b (by simp [Cd.exs])).2.2
    simp only [Cd.dat, relD, sz, szs]; omega
  | .two a b c d, h => by
    have h1 := (h a (by simp [Cd.exs])).2.2
    have h2 := (h b (by simp [Cd.exs])).2.2
    have h3 := (h c (by simp [Cd.exs])).2.2
    have h4 := (h d (by simp [Cd.exs])).2.2
    simp only [Cd.dat, relD, sz, szs]; omega
theorem Cd.tup : ∀ e : Cd, isTup e.dat = true
  | .one _ _ => rfl
  | .two _ _ _ _ => rfl
noncomputable def Cd.word : Cd → Str
  | .one _ _ => Str.ofString "rel"
  | .two _ _ _ _ => Str.ofString "or"
noncomputable def Cd.parts : Cd → List Dat
  | .one a b => [.str (Str.ofString "<"), a.dat, b.dat]
  | .two a b c d => [relD a b, .tuple [.str (Str.ofString "not"), relD c d]]
theorem Cd.dat_eq : ∀ e : Cd, e.dat = .tuple (.str e.word :: e.parts)
  | .one _ _ => rfl
  | .two _ _ _ _ => rfl
theorem Cd.wd : ∀ e : Cd, Wd e.word
  | .one _ _ => .rel
  | .two _ _ _ _ => .or
theorem Cd.word_turn : ∀ e : Cd, e.turn.word = e.word
  | .one _ _ => rfl
  | .two _ _ _ _ => rfl
theorem Cd.parts_len : ∀ e : Cd, e.parts.length ≤ 3
  | .one _ _ => Nat.le_refl _
  | .two _ _ _ _ => by simp [Cd.parts]
mutual
theorem refs_good {lo hi : Nat} : ∀ (n : Nat) {d : Dat}, Good lo hi n d → ∀ x ∈ refs d, Good lo hi n x
  | 0, d, h, x, hx => by rw [atom_refs h] at hx; cases hx
  | n + 1, d, .inl h, x, hx => by rw [atom_refs h] at hx; cases hx
  | n + 1, _, .inr ⟨ds, rfl, h1, h2, h3⟩, x, hx => by
    rw [refs] at hx
    rcases List.mem_append.mp hx with h | h
    · split at h
      · rw [List.mem_singleton.mp h]; exact .inr ⟨ds, rfl, h1, h2, h3⟩
      · cases h
    · rw [refss_map] at h
      obtain ⟨y, hy, hxy⟩ := List.mem_flatMap.mp h
      exact (refs_good n (h2 y hy) x hxy).succ
end
theorem refs_sz {lo hi : Nat} : ∀ (n : Nat) {d : Dat}, Good lo hi n d → ∀ x ∈ refs d, sz x ≤ sz d
  | 0, d, h, x, hx => by rw [atom_refs h] at hx; cases hx
  | n + 1, d, .inl h, x, hx => by rw [atom_refs h] at hx; cases hx
  | n + 1, _, .inr ⟨ds, rfl, h1, h2, h3⟩, x, hx => by
    have szm : ∀ (l : List Dat) (y : Dat), y ∈ l → sz y ≤ szs l := fun l y => by
      induction l with
      | nil => intro h; cases h
      | cons z l ih => intro h; rcases List.mem_cons.mp h with rfl | h; simp only [szs]; omega; have := ih h; simp only [szs]; omega
    rw [refs] at hx
    rcases List.mem_append.mp hx with h | h
    · split at h
      · rw [List.mem_singleton.mp h]; exact Nat.le_refl _
      · cases h
    · rw [refss_map] at h
      obtain ⟨y, hy, hxy⟩ := List.mem_flatMap.mp h
      have := refs_sz n (h2 y hy) x hxy
      have := szm ds y hy
      simp only [sz]; omega
/-- each ref that refs tells opens with the word ref -/
theorem refs_shape {lo hi : Nat} : ∀ (n : Nat) {d : Dat}, Good lo hi n d → ∀ x ∈ refs d, ∃ ds, x = .tuple (.str (Str.ofString "ref") :: ds) ∧ ds.length = 4
  | 0, d, h, x, hx => by rw [atom_refs h] at hx; cases hx
  | n + 1, d, .inl h, x, hx => by rw [atom_refs h] at hx; cases hx
  | n + 1, _, .inr ⟨ds, rfl, h1, h2, h3⟩, x, hx => by
    rw [refs] at hx
    rcases List.mem_append.mp hx with h | h
    · split at h
      · rename_i hr
        obtain ⟨who, gs, rows, part, rfl, _⟩ := h3 (isRefD_five hr)
        rw [List.mem_singleton.mp h]; exact ⟨_, rfl, rfl⟩
      · cases h
    · rw [refss_map] at h
      obtain ⟨y, hy, hxy⟩ := List.mem_flatMap.mp h
      exact refs_shape n (h2 y hy) x hxy
noncomputable def moveT (rs : List Dat) : List Dat := [.tuple [.str (Str.ofString "text"), .bytes #[114, 101, 102]], .tuple (rs.take 4)]
noncomputable def moveD (rs : List Dat) : Dat := .tuple (.str (Str.ofString "move") :: moveT rs)
theorem refs_move (rs : List Dat) : refs (moveD rs) = (rs.take 4).flatMap refs := by
  have hl : (rs.take 4).length ≠ 5 := by rw [List.length_take]; omega
  rw [moveD, moveT, refs, isRefD_ne (by simp), if_neg Bool.false_ne_true]
  simp only [refss, List.nil_append, List.append_nil]
  rw [atom_refs (.str _), refs, isRefD_ne (by simp), if_neg Bool.false_ne_true, refs, isRefD_ne hl, if_neg Bool.false_ne_true, refss_map (rs.take 4)]
  simp only [refss, List.nil_append, List.append_nil]
  rw [atom_refs (.str _), atom_refs (.bytes _)]; rfl
theorem good_move {rs : List Dat} (h : ∀ d ∈ rs, Good 0 1 9 d) : Good 0 1 11 (moveD rs) := by
  have hl : (rs.take 4).length ≤ 4 := by rw [List.length_take]; omega
  refine good_three (n := 10) (good_atom (.str _)) (Good.le (n := 1) (good_two (n := 0) (.str _) (.bytes _)) (by omega)) (.inr ⟨_, rfl, by omega, fun d hd => h d (List.mem_of_mem_take hd), fun h5 => by omega⟩)
theorem sz_move {rs : List Dat} {B : Nat} (h : ∀ d ∈ rs, sz d ≤ B) : sz (moveD rs) ≤ 10 + 4 * B := by
  have key : ∀ (l : List Dat), (∀ d ∈ l, sz d ≤ B) → szs l ≤ l.length * B := fun l => by
    induction l with
    | nil => intro _; simp [szs]
    | cons x l ih => intro h; have := h x List.mem_cons_self; have := ih fun d hd => h d (List.mem_cons_of_mem _ hd); simp only [szs, List.length_cons, Nat.succ_mul]; omega
  have := key (rs.take 4) fun d hd => h d (List.mem_of_mem_take hd)
  have hl : (rs.take 4).length * B ≤ 4 * B := Nat.mul_le_mul_right _ (by rw [List.length_take]; omega)
  simp only [moveD, moveT, sz, szs]; omega
end
section
/-- what stands in the law's ledger: the two tables of codes, and the rest -/
structure LawL (h₀ h : Heap) (L : Addr) (psW psR : Array Value) (R : Ledger) : Prop where
  nw : News h₀ L h ((233, tabObj psW) :: (29, tabObj psR) :: R)
  tw : TabW lamQ R psW
  tr : TabR psR
  n1 : 233 ∉ R.map (·.1)
  n2 : 29 ∉ R.map (·.1)
theorem n_cons {a b : Addr} {o : Obj} {R : Ledger} (h : a ≠ b) (hn : a ∉ R.map (·.1)) : a ∉ ((b, o) :: R).map (·.1) := by
  rw [List.map_cons]; exact fun q => (List.mem_cons.mp q).elim h hn
section
variable {h₀ h h' : Heap} {L : Addr} {m : Str → Option Value} {psW psR ps' : Array Value} {R tl : Ledger}
theorem LawL.call (St : LawL h₀ h L psW psR R) (F : Fr h₀ L h m) (S : Step h h' R (tl ++ R)) : Fr h₀ L h' m ∧ LawL h₀ h' L psW psR (tl ++ R) := by
  have e2 := (St.nw _ (List.mem_cons_of_mem _ List.mem_cons_self)).1
  have e1 := (St.nw _ List.mem_cons_self).1
  have S2 := S.aside (q := (29, tabObj psR)) e2 St.n2
  obtain ⟨F', N', n'⟩ := aside S2 F St.nw (n_cons (show (233 : Nat) ≠ 29 from by decide) St.n1)
  exact ⟨F', N', St.tw.mono fun q hq => List.mem_append_right _ hq, St.tr, step_not S St.n1 e1, step_not S St.n2 e2⟩
theorem LawL.call' {R' : Ledger} (St : LawL h₀ h L psW psR R) (F : Fr h₀ L h m) (S : Step h h' R R') (hT : TabW lamQ R' psW) : Fr h₀ L h' m ∧ LawL h₀ h' L psW psR R' := by
  have e2 := (St.nw _ (List.mem_cons_of_mem _ List.mem_cons_self)).1
  have e1 := (St.nw _ List.mem_cons_self).1
  have S2 := S.aside (q := (29, tabObj psR)) e2 St.n2
  obtain ⟨F', N', n'⟩ := aside S2 F St.nw (n_cons (show (233 : Nat) ≠ 29 from by decide) St.n1)
  exact ⟨F', N', hT, St.tr, step_not S St.n1 e1, step_not S St.n2 e2⟩
theorem LawL.re (St : LawL h₀ h L psW psR R) (N : News h₀ L h' ((233, tabObj psW) :: (29, tabObj psR) :: R)) : LawL h₀ h' L psW psR R := ⟨N, St.tw, St.tr, St.n1, St.n2⟩
theorem law_start {C T Nn : Addr} {cs ts : List Value} {ck tz nk : Nat} {nw : Ledger} (N : News h₀ L h nw) (h1 : (233, tabObj #[]) ∈ nw) (h2 : (29, tabObj #[]) ∈ nw) (h3 : (C, lstO cs ck) ∈ nw) (h4 : (T, lstO ts tz) ∈ nw) (h5 : (Nn, lstO [] nk) ∈ nw) :
    LawL h₀ h L #[] #[] [(C, lstO cs ck), (T, lstO ts tz), (Nn, lstO [] nk)] := by
  have ne : ∀ {a : Addr} {vs : List Value} {k : Nat} {b : Addr}, (a, lstO vs k) ∈ nw → (b, tabObj #[]) ∈ nw → b ≠ a := fun h h' => Ne.symm (news_ne N h h' (by show Value.type "list" ≠ Value.none; exact fun h => nomatch h))
  refine ⟨news_sub N ?_, .inl rfl, .inl rfl, n_cons (ne h3 h1) (n_cons (ne h4 h1) (n_cons (ne h5 h1) (by simp))), n_cons (ne h3 h2) (n_cons (ne h4 h2) (n_cons (ne h5 h2) (by simp)))⟩
  exact List.forall_mem_cons.mpr ⟨h1, List.forall_mem_cons.mpr ⟨h2, List.forall_mem_cons.mpr ⟨h3, List.forall_mem_cons.mpr ⟨h4, List.forall_mem_cons.mpr ⟨h5, fun _ h => nomatch h⟩⟩⟩⟩⟩
theorem LawL.refs (St : LawL h₀ h L psW psR R) (F : Fr h₀ L h m) (S : Step h h' ((29, tabObj psR) :: R) ((29, tabObj ps') :: (tl ++ R))) (hT : TabR ps') (ho : ∀ q ∈ tl, q.1 ≠ 29) : Fr h₀ L h' m ∧ LawL h₀ h' L psW ps' (tl ++ R) := by
  obtain ⟨F', N', n'⟩ := aside S F St.nw (n_cons (show (233 : Nat) ≠ 29 from by decide) St.n1)
  exact ⟨F', N', St.tw.mono fun q hq => List.mem_append_right _ hq, hT, fun q => n' (List.mem_cons_of_mem _ q), not_map fun q hq => (List.mem_append.mp hq).elim (ho q) (of_not_map St.n2 q)⟩
theorem LawL.worths (St : LawL h₀ h L psW psR R) (F : Fr h₀ L h m) (S : Step h h' ((233, tabObj psW) :: R) ((233, tabObj ps') :: (tl ++ R))) (hT : TabW lamQ (tl ++ R) ps') (hn : 233 ∉ (tl ++ R).map (·.1)) : Fr h₀ L h' m ∧ LawL h₀ h' L ps' psR (tl ++ R) := by
  obtain ⟨F', N', n'⟩ := aside S F (news_swap St.nw) (n_cons (show (29 : Nat) ≠ 233 from by decide) St.n2)
  exact ⟨F', news_swap N', hT, St.tr, hn, fun q => n' (List.mem_cons_of_mem _ q)⟩
theorem LawL.push {a : Addr} {o : Obj} (St : LawL h₀ h L psW psR R) (N : News h₀ L h' ((a, o) :: (233, tabObj psW) :: (29, tabObj psR) :: R)) (ho : o.cls ≠ (tabObj psW).cls) : LawL h₀ h' L psW psR ((a, o) :: R) := by
  have a1 : a ≠ 233 := news_ne N List.mem_cons_self (List.mem_cons_of_mem _ List.mem_cons_self) ho
  have a2 : a ≠ 29 := news_ne N List.mem_cons_self (List.mem_cons_of_mem _ (List.mem_cons_of_mem _ List.mem_cons_self)) ho
  exact ⟨news_sub N fun q hq => by simp only [List.mem_cons] at hq ⊢; grind, St.tw.mono fun q hq => List.mem_cons_of_mem _ hq, St.tr, n_cons (Ne.symm a1) St.n1, n_cons (Ne.symm a2) St.n2⟩
theorem LawL.led (St : LawL h₀ h L psW psR R) (F : Fr h₀ L h m) : Led h₀ h R := Led.of F (news_tail (news_tail St.nw))
theorem LawL.ledR (St : LawL h₀ h L psW psR R) (F : Fr h₀ L h m) : Led h₀ h ((29, tabObj psR) :: R) := Led.of F (news_tail St.nw)
theorem LawL.ledW (St : LawL h₀ h L psW psR R) (F : Fr h₀ L h m) : Led h₀ h ((233, tabObj psW) :: R) := Led.of F (news_tail (news_swap St.nw))
end
theorem law_cond {h₀ h : Heap} {L : Addr} {psW psR : Array Value} {q1 q2 q3 : Addr × Obj} {tl : Ledger} {v : Value} {us : List Value} {e : Cd} (St : LawL h₀ h L psW psR (q1 :: q2 :: q3 :: (tl ++ []))) (hv : DatIn (tl ++ []) v e.dat) (hus : DatAll (tl ++ []) us (refs e.dat)) :
    ∃ R1, LawL h₀ h L psW psR R1 ∧ q3 ∈ R1 ∧ DatIn R1 v e.dat ∧ DatAll R1 us (refs e.dat) :=
  ⟨_, St, List.mem_cons_of_mem _ (List.mem_cons_of_mem _ List.mem_cons_self), hv.mono fun _ h => List.mem_cons_of_mem _ (List.mem_cons_of_mem _ (List.mem_cons_of_mem _ h)), hus.mono fun _ h => List.mem_cons_of_mem _ (List.mem_cons_of_mem _ (List.mem_cons_of_mem _ h))⟩
theorem cond_parts {R : Ledger} {v : Value} {e : Cd} (h : DatIn R v e.dat) : ∃ a k u vs, v = .ref a ∧ (a, tupO (.str e.word u :: vs) k) ∈ R ∧ DatAll R vs e.parts ∧ vs.length ≤ 20 := by
  rw [Cd.dat_eq] at h
  cases h with
  | tuple hm r =>
    rcases r with _ | ⟨⟨⟩, r⟩
    have := r.length
    have := e.parts_len
    exact ⟨_, _, _, _, rfl, hm, r, by omega⟩
theorem up2 {q a b : Addr × Obj} {R : Ledger} (h : q ∈ R) : q ∈ a :: b :: R := List.mem_cons_of_mem _ (List.mem_cons_of_mem _ h)
/-- a call between two rounds of a comprehension in the law -/
theorem iter_step {h h' : Heap} {psW psR : Array Value} {tl tl' R : Ledger} {h₀ : Heap} {L : Addr} (S : Step h h' (tl ++ R) (tl' ++ (tl ++ R))) (N : News h₀ L h ((233, tabObj psW) :: (29, tabObj psR) :: (tl ++ R))) (n1 : 233 ∉ (tl ++ R).map (·.1)) (n2 : 29 ∉ (tl ++ R).map (·.1)) :
    Step h h' ((233, tabObj psW) :: (29, tabObj psR) :: (tl ++ R)) ((233, tabObj psW) :: (29, tabObj psR) :: ((tl' ++ tl) ++ R)) ∧ 233 ∉ ((tl' ++ tl) ++ R).map (·.1) ∧ 29 ∉ ((tl' ++ tl) ++ R).map (·.1) := by
  have e2 := (N _ (List.mem_cons_of_mem _ List.mem_cons_self)).1
  have e1 := (N _ List.mem_cons_self).1
  have S2 := (S.aside (q := (29, tabObj psR)) e2 n2).aside (q := (233, tabObj psW)) e1 (n_cons (show (233 : Nat) ≠ 29 from by decide) n1)
  rw [List.append_assoc]
  exact ⟨S2, step_not S n1 e1, step_not S n2 e2⟩
section
variable {prog : Program} {w : World} {A : Around} {E : Value → Shared → Prop} {env : Env} {h₀ : Heap}
theorem for_list {x : Str} {px : Pos} {body : List Stmt} {Q : Flow → Shared → Prop} {s₁ : Shared} {ax : Addr} {vs : List Value} {k : Nat} {m : Str → Option Value} {news : Ledger} (J : Nat → (Str → Option Value) → Ledger → Prop)
    (hx : env.kindOf x = some .local) (hp : (env.scope.kind == .class || (env.scope.kind == .module && env.locals != env.globals)) = false)
    (hh : A.handled = none) (F : Fr h₀ env.locals s₁.heap m) (N : News h₀ env.locals s₁.heap news) (hm : (ax, ({ cls := .type "list", data := .seq vs.toArray k } : Obj)) ∈ news)
    (hJ : ∀ i m nw, J i m nw → (ax, ({ cls := .type "list", data := .seq vs.toArray k } : Obj)) ∈ nw) (j0 : J 0 m news)
    (turn : ∀ i v m₁ nw I o s₃, vs[i]? = some v → J i m₁ nw → o.cls = .type "list_iterator" → Fr h₀ env.locals s₃.heap (fun y => if y = x then some v else m₁ y) →
      News h₀ env.locals s₃.heap ((I, o) :: nw) → I ∉ nw.map (·.1) → wpAny (model prog w) A (execs body env) (fun f s₅ => ForEnd h₀ env.locals (I, o) (J (i + 1)) s₃ f s₅) (fun _ _ => False) s₃)
    (done : ∀ h' tk m' nw, J vs.length m' nw → Fr h₀ env.locals h' m' → News h₀ env.locals h' nw → Q .next { s₁ with heap := h', toks := tk }) :
    wpAny (model prog w) A (pyIter (.ref ax)) (fun it s₂ => ∃ I fp n P St m news J, ForOn prog w A env h₀ (.Name x px) body Q E it s₂ I fp n P St m news J) E s₁ := by
  have ht : s₁.heap.IsList ax vs.toArray := ⟨_, (N _ hm).1, rfl, k, rfl⟩
  have hlt : ax < s₁.heap.objs.size := Heap.lt_size (N _ hm).1
  obtain ⟨g1, g2, g3⟩ := fresh_ground F N (Nat.le_refl s₁.heap.objs.size)
  refine wpAny_pyIter_list ht ⟨s₁.heap.objs.size, _, _, _, _, m, news, J, rfl, Walks.list hh s₁.heap.objs.size ax (Nat.ne_of_lt hlt) vs.toArray, ⟨⟨_, Heap.get?_push_size _ rfl, rfl, rfl⟩, ⟨_, Heap.get?_push_of_some _ (N _ hm).1, rfl, k, rfl⟩⟩, ⟨g1, g2, g3⟩, F.push _, news_push N _, j0, ?_, ?_, ?_, ?_, ?_⟩
  · rintro i h ⟨⟨o, e, _⟩, _⟩; exact ⟨o, e⟩
  · rintro i j h h' o m nw hj ⟨⟨o', e', r⟩, _⟩ e1 e2 hN
    rw [e1] at e'; cases e'
    exact ⟨⟨o, e2, r⟩, ⟨_, hN _ (hJ _ _ _ hj), rfl, k, rfl⟩⟩
  · rintro i v s Q E hv ⟨hit, _⟩ hQ
    exact wpAny_pure hQ
  · rintro i v m₁ nw o s₃ hi hv ⟨⟨o', e', hc, _⟩, _⟩ hJ₁ F3 N3 hI
    have ho : o.cls = .type "list_iterator" := by
      have := (N3 _ List.mem_cons_self).1
      rw [e'] at this; cases this; exact hc
    have hv' : vs[i]? = some v := by simpa using hv
    refine wpAny_assign_Name (wpAny_storeName_local hx F3.ns (fun h₂ hn₂ hs₂ => ?_) hp)
    exact turn i v m₁ nw _ o { s₃ with heap := h₂, toks := _ } hv' hJ₁ ho (F3.set hn₂ hs₂) (News.set N3 hs₂) hI
  · intro h' tk m' nw hj F' N'; exact done h' tk m' nw (by simpa using hj) F' N'
end
theorem LawL.worthsI {h₀ h h' : Heap} {L : Addr} {m : Str → Option Value} {psW psR ps' : Array Value} {R tl : Ledger} {I : Addr} {o : Obj} (F : Fr h₀ L h m) (N : News h₀ L h ((I, o) :: (233, tabObj psW) :: (29, tabObj psR) :: R)) (tw : TabW lamQ R psW) (tr : TabR psR) (n1 : 233 ∉ R.map (·.1)) (n2 : 29 ∉ R.map (·.1))
    (hI : I ∉ ((233, tabObj psW) :: (29, tabObj psR) :: R).map (·.1)) (S : Step h h' ((233, tabObj psW) :: R) ((233, tabObj ps') :: (tl ++ R))) (hT : TabW lamQ (tl ++ R) ps') (hn : 233 ∉ (tl ++ R).map (·.1)) :
    Fr h₀ L h' m ∧ News h₀ L h' ((I, o) :: (233, tabObj ps') :: (29, tabObj psR) :: (tl ++ R)) ∧ TabW lamQ (tl ++ R) ps' ∧ 233 ∉ (tl ++ R).map (·.1) ∧ 29 ∉ (tl ++ R).map (·.1) ∧ I ∉ ((233, tabObj ps') :: (29, tabObj psR) :: (tl ++ R)).map (·.1) := by
  have St : LawL h₀ h L psW psR R := ⟨news_tail N, tw, tr, n1, n2⟩
  obtain ⟨F', St'⟩ := St.worths F S hT hn
  obtain ⟨eI, eL, e0⟩ := N _ List.mem_cons_self
  simp only [List.map_cons, List.mem_cons, not_or] at hI
  have nI : I ∉ ((233, tabObj psW) :: R).map (·.1) := n_cons hI.1 hI.2.2
  have nI' := step_not S nI eI
  simp only [List.map_cons, List.mem_cons, not_or] at nI'
  refine ⟨F', List.forall_mem_cons.mpr ⟨⟨S.keep _ _ nI eI, eL, e0⟩, St'.nw⟩, St'.tw, St'.n1, St'.n2, ?_⟩
  simp only [List.map_cons, List.mem_cons, not_or]
  exact ⟨nI'.1, hI.2.1, nI'.2⟩
/-- the relations of a condition -/
noncomputable def Cd.rels : Cd → List Dat
  | .one a b => [relD a b]
  | .two a b c d => [relD a b, relD c d]
theorem Cd.rels_of : ∀ (e : Cd), ∀ d ∈ e.rels, ∃ x y, d = relD x y ∧ x ∈ e.exs ∧ y ∈ e.exs
  | .one a b, d, h => by rw [List.mem_singleton.mp h]; exact ⟨a, b, rfl, by simp [Cd.exs], by simp [Cd.exs]⟩
  | .two a b c d, x, h => by
    simp only [Cd.rels, List.mem_cons, List.not_mem_nil, or_false] at h
    rcases h with rfl | rfl
    · exact ⟨a, b, rfl, by simp [Cd.exs], by simp [Cd.exs]⟩
    · exact ⟨c, d, rfl, by simp [Cd.exs], by simp [Cd.exs]⟩
/-- what stands between two rounds of the law's loop -/
def LawJ (psR : Array Value) (Nn : Addr) (R0 : Ledger) (m : Str → Option Value) (nw : Ledger) : Prop :=
  ∃ psW tl, nw = (233, tabObj psW) :: (29, tabObj psR) :: (tl ++ R0) ∧ TabW lamQ (tl ++ R0) psW ∧ 233 ∉ (tl ++ R0).map (·.1) ∧ 29 ∉ (tl ++ R0).map (·.1) ∧ m (Str.ofString "notes") = some (.ref Nn)
theorem iter_rels {M : Model} {A : Around} {E : Value → Shared → Prop} {s : Shared} {env : Env} {iter : Expr} {Q : Value → Shared → Prop} {h₀ : Heap} {L : Addr} {m : Str → Option Value} {psW psR : Array Value} {R : Ledger} (e : Cd) (_F : Fr h₀ L s.heap m) (_N : News h₀ L s.heap ((233, tabObj psW) :: (29, tabObj psR) :: R))
    (h : wpAny M A (eval iter env) (fun xv s' => Held (∃ Lr vs k h tk, xv = .ref Lr ∧ s' = { s with heap := h, toks := tk } ∧ Fr h₀ L h m ∧ News h₀ L h ((Lr, lstO vs k) :: (233, tabObj psW) :: (29, tabObj psR) :: R) ∧ DatAll R vs e.rels)) E s)
    (k : ∀ Lr vs k h tk, Fr h₀ L h m → News h₀ L h ((Lr, lstO vs k) :: (233, tabObj psW) :: (29, tabObj psR) :: R) → DatAll R vs e.rels → Q (.ref Lr) { s with heap := h, toks := tk }) : wpAny M A (eval iter env) Q E s :=
  wpAny_mono h (fun xv s' h => by
    obtain ⟨Lr, vs, kk, h, tk, rfl, rfl, F, N, hd⟩ := h
    exact k Lr vs kk h tk F N hd) fun _ _ e => e
theorem or_list {M : Model} {A : Around} {E : Value → Shared → Prop} {s : Shared} {env : Env} {ex : Expr} {Q : Value → Shared → Prop} {h₀ : Heap} {L : Addr} {m : Str → Option Value} (_F : Fr h₀ L s.heap m)
    (h : wpAny M A (eval ex env) (fun xv s' => Held (∃ C cs ck ins h tk, xv = .ref C ∧ s' = { s with heap := h, toks := tk } ∧ Fr h₀ L h m ∧ News h₀ L h [(C, lstO cs ck), (233, tabObj #[]), (29, tabObj #[])] ∧ IntsAre cs ins ∧ 0 < ins.length ∧ ins.length ≤ 100)) E s)
    (k : ∀ C cs ck ins h tk, Fr h₀ L h m → News h₀ L h [(C, lstO cs ck), (233, tabObj #[]), (29, tabObj #[])] → IntsAre cs ins → 0 < ins.length → ins.length ≤ 100 → Q (.ref C) { s with heap := h, toks := tk }) : wpAny M A (eval ex env) Q E s :=
  wpAny_mono h (fun xv s' h => by
    obtain ⟨C, cs, ck, ins, h, tk, rfl, rfl, F, N, hi, h0, h1⟩ := h
    exact k C cs ck ins h tk F N hi h0 h1) fun _ _ e => e
theorem mem_w {q a b c : Addr × Obj} {R : Ledger} (h : q ∈ b :: R) : q ∈ a :: b :: c :: R := by
  rcases List.mem_cons.mp h with rfl | h
  · exact List.mem_cons_of_mem _ List.mem_cons_self
  · exact List.mem_cons_of_mem _ (List.mem_cons_of_mem _ (List.mem_cons_of_mem _ h))
section
variable {prog : Program} {w : World} {A : Around} {E : Value → Shared → Prop} {s : Shared} {h₀ : Heap} {L : Addr} {m : Str → Option Value} {news : Ledger} {Q : Value → Shared → Prop}
theorem m_take4 {value slice : Expr} {l : Addr} {vs : List Value} {k : Nat} {t : Tok} (F : Fr h₀ L s.heap m) (N : News h₀ L s.heap news) (hm : (l, lstO vs k) ∈ news) (hz : vs.length ≤ 100000)
    (h : ∀ D h', Fr h₀ L h' m → News h₀ L h' ((D, lstO (vs.take 4) 0) :: news) → (∀ p ∈ news, p.1 < D) → Q (.ref D) { s with heap := h' })
    (hs : subscripted slice false (.ref l) (.ref s.heap.objs.size) = operate [.ref s.heap.objs.size, .ref l] (getItem (.ref l) (.ref s.heap.objs.size))) (ht : ∀ r, letTemporaryGo value (.ref l) r = pure ()) :
    wpAny (model prog w) A (subscriptTail value slice (.ref l) (.ref s.heap.objs.size)) Q E { s with heap := s.heap.push { cls := .type "slice", data := .fields #[.none, .int 4 t, .none] } } := by
  have e0 : sliceBounds none (some 4) none vs.toArray.size = (((0 : Nat) : Int), ((min 4 vs.toArray.size : Nat) : Int), 1) := by
    simp only [sliceBounds, Option.getD_none, show (1 : Int) > 0 by decide, if_true, if_neg (show ¬ ((4 : Int) < 0) by omega)]
    congr 1
    congr 1
    omega
  refine kmk_slice_lit (its := vs.toArray) (zs := vs.take 4) F N ⟨_, (N _ hm).1, rfl, k, rfl⟩ IsPart.none (IsPart.int 4 t) ?_ h hs ht (by rw [List.size_toArray, sizeLine_eq]; omega)
  rw [kmk_pick_nat _ e0]
  show (vs.drop 0).take (min 4 vs.toArray.size - 0) = _
  rw [List.drop_zero, Nat.sub_zero, List.size_toArray, kmk_take_min]
end
theorem wpAny_held {M : Model} {A : Around} {m : Sem Value} {P : Value → Shared → Prop} {E : Value → Shared → Prop} {s : Shared} (h : wpAny M A m (fun v s' => Held (P v s')) E s) : wpAny M A m P E s := h
theorem DatAll.take {nw : Ledger} {vs : List Value} {ds : List Dat} (h : DatAll nw vs ds) (n : Nat) : DatAll nw (vs.take n) (ds.take n) := by
  induction vs generalizing ds n with
  | nil => cases h; simp; exact .nil
  | cons v vs ih =>
    cases h with
    | cons h r =>
      cases n with
      | zero => exact .nil
      | succ n => exact .cons h (ih r n)
theorem LawL.pushs {h₀ h : Heap} {L : Addr} {psW psR : Array Value} {R : Ledger} (nw : Ledger) (N : News h₀ L h (nw ++ (233, tabObj psW) :: (29, tabObj psR) :: R)) (tw : TabW lamQ R psW) (tr : TabR psR) (n1 : 233 ∉ R.map (·.1)) (n2 : 29 ∉ R.map (·.1)) (hc : ∀ q ∈ nw, q.2.cls ≠ Value.none) : LawL h₀ h L psW psR (nw ++ R) := by
  have m1 : (233, tabObj psW) ∈ nw ++ (233, tabObj psW) :: (29, tabObj psR) :: R := List.mem_append_right _ List.mem_cons_self
  have m2 : (29, tabObj psR) ∈ nw ++ (233, tabObj psW) :: (29, tabObj psR) :: R := List.mem_append_right _ (List.mem_cons_of_mem _ List.mem_cons_self)
  refine ⟨news_sub N fun q hq => ?_, tw.mono fun q hq => List.mem_append_right _ hq, tr, not_map fun q hq => (List.mem_append.mp hq).elim (fun h => ?_) (of_not_map n1 q), not_map fun q hq => (List.mem_append.mp hq).elim (fun h => ?_) (of_not_map n2 q)⟩
  · simp only [List.mem_cons, List.mem_append] at hq ⊢
    rcases hq with h | h | h | h
    · exact .inr (.inl h)
    · exact .inr (.inr (.inl h))
    · exact .inl h
    · exact .inr (.inr (.inr h))
  · exact news_ne N (a := q.1) (o1 := q.2) (List.mem_append_left _ h) m1 (hc q h)
  · exact news_ne N (a := q.1) (o1 := q.2) (List.mem_append_left _ h) m2 (hc q h)
theorem cls_t {q : Addr × Obj} (h : q.2.cls = .type "tuple") : q.2.cls ≠ Value.none := by rw [h]; exact fun h => nomatch h
theorem cls_l {q : Addr × Obj} (h : q.2.cls = .type "list") : q.2.cls ≠ Value.none := by rw [h]; exact fun h => nomatch h
/-- what stands between two rounds of the comprehension with two clauses -/
def TwoJ (psW : Array Value) (rs : List Dat) (R0 : Ledger) (i : Nat) (ys : List Value) (nw : Ledger) : Prop :=
  ∃ psR tl, nw = (233, tabObj psW) :: (29, tabObj psR) :: (tl ++ R0) ∧ TabR psR ∧ 233 ∉ (tl ++ R0).map (·.1) ∧ 29 ∉ (tl ++ R0).map (·.1) ∧ DatAll (tl ++ R0) ys ((rs.take i).flatMap refs)
theorem take_flat {α β : Type} (l : List α) (f : α → List β) (i : Nat) : ((l.take i).flatMap f).length ≤ (l.flatMap f).length := by
  have e : (l.flatMap f).length = ((l.take i).flatMap f).length + ((l.drop i).flatMap f).length := by
    rw [← List.length_append, ← List.flatMap_append, List.take_append_drop]
  omega
/-- a call of refs_within between two rounds -/
theorem refs_step {h h' : Heap} {psW psR ps' : Array Value} {tl tl' R : Ledger} {h₀ : Heap} {L : Addr} (S : Step h h' ((29, tabObj psR) :: (tl ++ R)) ((29, tabObj ps') :: (tl' ++ (tl ++ R)))) (N : News h₀ L h ((233, tabObj psW) :: (29, tabObj psR) :: (tl ++ R))) (n1 : 233 ∉ (tl ++ R).map (·.1)) (n2 : 29 ∉ (tl ++ R).map (·.1)) (ho : ∀ q ∈ tl', q.1 ≠ 29) :
    Step h h' ((233, tabObj psW) :: (29, tabObj psR) :: (tl ++ R)) ((233, tabObj psW) :: (29, tabObj ps') :: ((tl' ++ tl) ++ R)) ∧ 233 ∉ ((tl' ++ tl) ++ R).map (·.1) ∧ 29 ∉ ((tl' ++ tl) ++ R).map (·.1) := by
  have e1 := (N _ List.mem_cons_self).1
  have m1 := n_cons (o := tabObj psR) (show (233 : Nat) ≠ 29 from by decide) n1
  have S2 := S.aside (q := (233, tabObj psW)) e1 m1
  have n1' := step_not S m1 e1
  rw [List.append_assoc]
  exact ⟨S2, fun q => n1' (List.mem_cons_of_mem _ q), not_map fun q hq => (List.mem_append.mp hq).elim (ho q) (of_not_map n2 q)⟩
/-- a reference among those that refs tells, in the heap -/
theorem ref_parts_in {lo hi n : Nat} {R : Ledger} {v : Value} {d x : Dat} (hg : Good lo hi n d) (hx : x ∈ refs d) (h : DatIn R v x) : ∃ a k u vs ds, v = .ref a ∧ x = .tuple (.str (Str.ofString "ref") :: ds) ∧ (a, tupO (.str (Str.ofString "ref") u :: vs) k) ∈ R ∧ DatAll R vs ds ∧ vs.length ≤ 20 := by
  obtain ⟨ds, rfl, hl⟩ := refs_shape n hg x hx
  cases h with
  | tuple hm r =>
    rcases r with _ | ⟨⟨⟩, r⟩
    have := r.length
    exact ⟨_, _, _, _, _, rfl, rfl, hm, r, by omega⟩
theorem LawL.pushs' {h₀ h : Heap} {L : Addr} {psW psR : Array Value} {R : Ledger} {a b c d : Addr × Obj} (N : News h₀ L h (a :: b :: c :: d :: (233, tabObj psW) :: (29, tabObj psR) :: R)) (tw : TabW lamQ R psW) (tr : TabR psR) (n1 : 233 ∉ R.map (·.1)) (n2 : 29 ∉ R.map (·.1)) (ha : a.2.cls ≠ Value.none) (hb : b.2.cls ≠ Value.none) (hc : c.2.cls ≠ Value.none) (hd : d.2.cls ≠ Value.none) :
    ∃ R', LawL h₀ h L psW psR R' ∧ (a ∈ R' ∧ b ∈ R' ∧ c ∈ R' ∧ d ∈ R') ∧ ∀ q ∈ R, q ∈ R' :=
  ⟨_, LawL.pushs [a, b, c, d] N tw tr n1 n2 (List.forall_mem_cons.mpr ⟨ha, List.forall_mem_cons.mpr ⟨hb, List.forall_mem_cons.mpr ⟨hc, List.forall_mem_cons.mpr ⟨hd, fun _ h => nomatch h⟩⟩⟩⟩),
    ⟨List.mem_cons_self, List.mem_cons_of_mem _ List.mem_cons_self, List.mem_cons_of_mem _ (List.mem_cons_of_mem _ List.mem_cons_self), List.mem_cons_of_mem _ (List.mem_cons_of_mem _ (List.mem_cons_of_mem _ List.mem_cons_self))⟩, fun q hq => List.mem_append_right _ hq⟩
theorem LawL.push1 {h₀ h : Heap} {L : Addr} {psW psR : Array Value} {R : Ledger} {a : Addr × Obj} (N : News h₀ L h (a :: (233, tabObj psW) :: (29, tabObj psR) :: R)) (tw : TabW lamQ R psW) (tr : TabR psR) (n1 : 233 ∉ R.map (·.1)) (n2 : 29 ∉ R.map (·.1)) (ha : a.2.cls ≠ Value.none) :
    ∃ R', LawL h₀ h L psW psR R' ∧ a ∈ R' ∧ ∀ q ∈ R, q ∈ R' :=
  ⟨_, LawL.pushs [a] N tw tr n1 n2 (List.forall_mem_cons.mpr ⟨ha, fun _ h => nomatch h⟩), List.mem_cons_self, fun q hq => List.mem_append_right _ hq⟩
theorem LawL.push2 {h₀ h : Heap} {L : Addr} {psW psR : Array Value} {R : Ledger} {a b : Addr × Obj} (N : News h₀ L h (a :: b :: (233, tabObj psW) :: (29, tabObj psR) :: R)) (tw : TabW lamQ R psW) (tr : TabR psR) (n1 : 233 ∉ R.map (·.1)) (n2 : 29 ∉ R.map (·.1)) (ha : a.2.cls ≠ Value.none) (hb : b.2.cls ≠ Value.none) :
    ∃ R', LawL h₀ h L psW psR R' ∧ (a ∈ R' ∧ b ∈ R') ∧ ∀ q ∈ R, q ∈ R' :=
  ⟨_, LawL.pushs [a, b] N tw tr n1 n2 (List.forall_mem_cons.mpr ⟨ha, List.forall_mem_cons.mpr ⟨hb, fun _ h => nomatch h⟩⟩), ⟨List.mem_cons_self, List.mem_cons_of_mem _ List.mem_cons_self⟩, fun q hq => List.mem_append_right _ hq⟩
theorem refs_num : refs (.tuple [.str (Str.ofString "number"), .tuple [.int 1, .int 0]]) = [] := (Lf.number 1 |> fun _ => by
  rw [refs, isRefD_ne (by simp), if_neg Bool.false_ne_true]
  simp only [refss, List.nil_append, List.append_nil]
  rw [atom_refs (.str _), refs, isRefD_ne (by simp), if_neg Bool.false_ne_true]
  simp only [refss, List.nil_append, List.append_nil]
  rw [atom_refs (.int _), atom_refs (.int _)]; rfl)
end
section
local macro_rules | `(tactic| k_qdec) => `(tactic| decide +kernel)
local macro_rules | `(tactic| walk_at "eval ListComp") => `(tactic| ((with_reducible show wpAny _ _ (eval (Expr.ListComp _ [_, _] _ _) _) _ _ _); refine stop_here ?_))
local macro_rules | `(tactic| walk_at "subscriptTail") => `(tactic| ((fail_if_success (rename Passed => hq9)); (with_reducible show wpAny _ _ (subscriptTail _ (PySem.Expr.Slice none (some _) none _) (Value.ref _) (Value.ref _)) _ _ _); k_dflt (refine' m_take4 ?zF ?zN ?zm ?zz ?_ ?zs ?zg; (case zF => k_asm); (case zN => k_asm); (case zm => k_mem); (case zz => assumption); (case zs => with_unfolding_all rfl); (case zg => (intro _; with_unfolding_all rfl)); k_whole); intro D' h' F' N' l1; (try dsimp only)))
local macro_rules | `(tactic| walk_at "exec For Name IfExp cons nil") => `(tactic| refine stop_here ?_)
local macro_rules | `(tactic| walk_at "call ref") => `(tactic| refine stop_here ?_)
local macro_rules | `(tactic| walk_at "compareOp NotEq ref ref") => `(tactic| refine stop_here ?_)
local macro_rules | `(tactic| walk_at "compareOp Eq ref ref") => `(tactic| refine stop_here ?_)
local macro_rules | `(tactic| walk_at "eval BoolOp") => `(tactic| ((fail_if_success (rename Passed => hq9)); (with_reducible show wpAny _ _ (eval (Expr.BoolOp _ [Expr.Call _ _ _ _, Expr.List _ _] _) _) _ _ _); refine stop_here ?_))
set_option maxHeartbeats 4000000 in
theorem law_holds : PySem.Challenge.rw_pb0239_01.Holds := Mine.hd (by
  k_go0
  all_goals try k_fold
  walk_at "my steps"
  unfold Stop
  rename Fr _ _ _ _ => F0
  refine or_list F0 ?_ ?_
  · have hpass : Passed := ⟨⟩
    walk_at "my steps"
    · rename Fr _ _ _ _ => F1
      rename News _ _ _ _ => N1
      rename ((List.take 60 _).length = min 60 _) => hmin
      exact ⟨_, _, _, _, _, _, rfl, rfl, F1, news_sub N1 (List.forall_mem_cons.mpr ⟨List.mem_cons_self, List.forall_mem_cons.mpr ⟨(List.mem_cons_of_mem _ (List.mem_cons_of_mem _ List.mem_cons_self)), List.forall_mem_cons.mpr ⟨(List.mem_cons_of_mem _ (List.mem_cons_of_mem _ (List.mem_cons_of_mem _ List.mem_cons_self))), fun _ h => nomatch h⟩⟩⟩), by assumption, by assumption, Nat.le_trans (Nat.le_of_eq hmin) (Nat.le_trans (Nat.min_le_left 60 _) (show 60 ≤ 100 from by decide))⟩
    · rename Fr _ _ _ _ => F1
      rename News _ _ _ _ => N1
      exact ⟨_, [Value.int 0 _], _, [0], _, _, rfl, rfl, F1, news_sub N1 (List.forall_mem_cons.mpr ⟨List.mem_cons_self, List.forall_mem_cons.mpr ⟨(List.mem_cons_of_mem _ (List.mem_cons_of_mem _ (List.mem_cons_of_mem _ List.mem_cons_self))), List.forall_mem_cons.mpr ⟨(List.mem_cons_of_mem _ (List.mem_cons_of_mem _ (List.mem_cons_of_mem _ (List.mem_cons_of_mem _ List.mem_cons_self)))), fun _ h => nomatch h⟩⟩⟩), .cons 0 _ .nil, by decide, by decide⟩
  · intro C cs ck ins h0 tk0 F0 N0 hi hn0 hn1
    rename Frag.In _ _ => X'
    rename Top _ _ _ _ _ _ => T'
    rename CodeHd _ _ _ => HC29
    rename CodeHd _ (235, 233).1 _ => HC233
    walk_at "my steps"
    unfold Stop
    rename Fr _ _ _ _ => F0
    rename News _ _ _ _ => N0
    rename (_ < _ ∧ _ < _ ∧ 233 < _ ∧ 29 < _) => lC
    rename (_ < _ ∧ 233 < _ ∧ 29 < _) => lB
    have hCT := Nat.ne_of_lt lB.1
    have hCN := Nat.ne_of_lt lC.2.1
    have hTN := Nat.ne_of_lt lC.1
    have St0 := law_start N0 (List.mem_cons_of_mem _ (List.mem_cons_of_mem _ (List.mem_cons_of_mem _ List.mem_cons_self))) (List.mem_cons_of_mem _ (List.mem_cons_of_mem _ (List.mem_cons_of_mem _ (List.mem_cons_of_mem _ List.mem_cons_self)))) (List.mem_cons_of_mem _ (List.mem_cons_of_mem _ List.mem_cons_self)) (List.mem_cons_of_mem _ List.mem_cons_self) List.mem_cons_self
    refine c_cond X' T' (St0.led F0) (by decide) (by decide) (fun _ h => nomatch h) (fun _ h => nomatch h) (fun _ h => nomatch h) hCT hCN hTN hi hn0 hn1 fun v e cs1 k1 kt1 us nk1 tl1 h1 tk1 S1 hv hus hex => ?_
    obtain ⟨F1, St1⟩ := St0.call' F0 S1 (.inl rfl)
    clear F0 N0 S1 St0
    obtain ⟨R1, St1, hN1, hv, hus⟩ := law_cond St1 hv hus
    have hcg := e.good hex
    have hcz := e.szb hex
    obtain ⟨a, ka, ua, va, rfl, hm, hvs, hvz⟩ := cond_parts hv
    have N1 := St1.nw
    walk_at "my steps"
    unfold Stop
    rename Fr _ _ _ _ => F2
    rename News _ _ _ _ => N2
    have St2 := St1.re N2
    clear St1 N2
    refine c_refs e.wd X' T' HC29 (St2.ledR F2) St2.tr (of_not_map St2.n2) (by decide) (by decide) hm hvz hvs (by rw [← Cd.dat_eq]; exact hcg) (by rw [← Cd.dat_eq]; omega) fun l3 lk3 ys3 h3 tk3 ps3 tl3 S3 hT3 o3 hl3 hy3 => ?_
    obtain ⟨F3, St3⟩ := St2.refs F2 S3 hT3 o3
    have s3 : ∀ q ∈ R1, q ∈ tl3 ++ R1 := fun q hq => List.mem_append_right _ hq
    replace hl3 := List.mem_append_left R1 hl3
    rw [← Cd.dat_eq] at hy3
    clear F2 S3 St2
    generalize tl3 ++ R1 = R3 at *
    replace hus := hus.mono s3
    replace hv := hv.mono s3
    replace hvs := hvs.mono s3
    replace hm := s3 _ hm
    replace hN1 := s3 _ hN1
    have N3 := St3.nw
    walk_at "my steps"
    unfold Stop
    rename Fr _ _ _ _ => F4
    rename News _ _ _ _ => N4
    refine m_ne_lists (lo := 0) (hi := 1) (n := 9) N4 (up2 hl3) (up2 hN1) (refs_good 9 hcg) (by dsimp only [callerA, Around.deeper]; decide) (hy3.mono fun _ h => up2 h) (hus.mono fun _ h => up2 h) ?_
    have St4 := St3.re N4
    clear St3
    walk_at "my steps"
    unfold Stop
    rename Fr _ _ _ _ => F5
    rename News _ _ _ _ => N5
    have St5 := St4.re N5
    clear St4 N5
    refine c_exch turn_ok (by omega) rfl 9 (hcg.wide (Nat.le_refl _) (by omega)) X' T' (St5.led F5) (by decide) (by decide) hv fun r6 h6 tk6 tl6 S6 hd6 => ?_
    obtain ⟨F6, St6⟩ := St5.call F5 S6
    have s6 : ∀ q ∈ R3, q ∈ tl6 ++ R3 := fun q hq => List.mem_append_right _ hq
    rw [exch_turn (by omega) 9 hcg, ← Cd.turn_dat] at hd6
    have hcg' : Good 1 2 9 e.turn.dat := by rw [Cd.turn_dat]; exact good_hand (by omega) 9 hcg
    clear F5 S6 St5
    generalize tl6 ++ R3 = R6 at *
    replace hus := hus.mono s6
    replace hv := hv.mono s6
    replace hvs := hvs.mono s6
    replace hm := s6 _ hm
    replace hN1 := s6 _ hN1
    obtain ⟨a6, k6, u6, v6, rfl, hm6, hvs6, hvz6⟩ := cond_parts hd6
    have N6 := St6.nw
    walk_at "my steps"
    unfold Stop
    rename Fr _ _ _ _ => F7
    rename News _ _ _ _ => N7
    have St7 := St6.re N7
    clear St6 N7
    refine c_hand (by omega) 9 hcg X' T' (St7.led F7) (by decide) (by decide) hv fun r8 h8 tk8 tl8 S8 hd8 => ?_
    obtain ⟨F8, St8⟩ := St7.call F7 S8
    have s8 : ∀ q ∈ R6, q ∈ tl8 ++ R6 := fun q hq => List.mem_append_right _ hq
    rw [← Cd.turn_dat] at hd8
    clear F7 S8 St7
    generalize tl8 ++ R6 = R8 at *
    replace hus := hus.mono s8
    replace hv := hv.mono s8
    replace hvs := hvs.mono s8
    replace hm := s8 _ hm
    replace hN1 := s8 _ hN1
    replace hd6 := hd6.mono s8
    replace hvs6 := hvs6.mono s8
    replace hm6 := s8 _ hm6
    obtain ⟨a8, k8, u8, v8, rfl, hm8, hvs8, hvz8⟩ := cond_parts hd8
    have N8 := St8.nw
    walk_at "my steps"
    unfold Stop
    rename Fr _ _ _ _ => F9
    rename News _ _ _ _ => N9
    refine m_ne_goods (lo := 1) (hi := 2) (n := 9) N9 hcg' e.turn.tup (by dsimp only [callerA, Around.deeper]; decide) (hd6.mono fun _ h => up2 h) (hd8.mono fun _ h => up2 h) ?_
    have St9 := St8.re N9
    clear St8
    walk_at "my steps"
    unfold Stop
    rename Fr _ _ _ _ => F10
    rename News _ _ _ _ => N10
    have St10 := St9.re N10
    clear St9 N10
    refine c_exch cont_ok (by omega) rfl 9 (hcg'.wide (Nat.le_refl _) (by omega)) X' T' (St10.led F10) (by decide) (by decide) hd6 fun r11 h11 tk11 tl11 S11 hd11 => ?_
    obtain ⟨F11, St11⟩ := St10.call F10 S11
    have s11 : ∀ q ∈ R8, q ∈ tl11 ++ R8 := fun q hq => List.mem_append_right _ hq
    rw [Cd.turn_dat, exch_back (by omega) 9 hcg] at hd11
    clear F10 S11 St10
    generalize tl11 ++ R8 = R11 at *
    replace hus := hus.mono s11
    replace hv := hv.mono s11
    replace hvs := hvs.mono s11
    replace hm := s11 _ hm
    replace hN1 := s11 _ hN1
    replace hd6 := hd6.mono s11
    replace hvs6 := hvs6.mono s11
    replace hm6 := s11 _ hm6
    obtain ⟨a11, k11, u11, v11, rfl, hm11, hvs11, hvz11⟩ := cond_parts hd11
    have N11 := St11.nw
    walk_at "my steps"
    unfold Stop
    rename Fr _ _ _ _ => F12
    rename News _ _ _ _ => N12
    refine m_ne_goods (lo := 0) (hi := 1) (n := 9) N12 hcg e.tup (by dsimp only [callerA, Around.deeper]; decide) (hd11.mono fun _ h => up2 h) (hv.mono fun _ h => up2 h) ?_
    have St12 := St11.re N12
    clear St11
    walk_at "my steps"
    unfold Stop
    rename Fr _ _ _ _ => F13
    rename News _ _ _ _ => N13
    have St13 := St12.re N13
    clear St12 N13
    have hz6 : sz e.turn.dat ≤ 800 := by
      have := sz_hand (lo := 0) (hi := 1) (by omega) 9 hcg
      rw [Cd.turn_dat]; omega
    refine c_refs e.turn.wd X' T' HC29 (St13.ledR F13) St13.tr (of_not_map St13.n2) (by decide) (by decide) hm6 hvz6 hvs6 (by rw [← Cd.dat_eq]; exact hcg') (by rw [← Cd.dat_eq]; omega) fun l14 lk14 ys14 h14 tk14 ps14 tl14 S14 hT14 o14 hl14 hy14 => ?_
    obtain ⟨F14, St14⟩ := St13.refs F13 S14 hT14 o14
    have s14 : ∀ q ∈ R11, q ∈ tl14 ++ R11 := fun q hq => List.mem_append_right _ hq
    replace hl14 := List.mem_append_left R11 hl14
    rw [← Cd.dat_eq, Cd.turn_dat, refs_hand (by omega) 9 hcg] at hy14
    clear F13 S14 St13
    generalize tl14 ++ R11 = R14 at *
    replace hus := hus.mono s14
    replace hv := hv.mono s14
    replace hm := s14 _ hm
    replace hvs := hvs.mono s14
    replace hN1 := s14 _ hN1
    have N14 := St14.nw
    walk_at "my steps"
    rename Fr _ _ _ _ => F15
    have hul := hus.length
    have hrl := length_refs e.dat
    have hsl : sizeLine = 2 ^ 24 := rfl
    refine iter_list (R := fun i ys nw => ∃ tl, nw = (233, tabObj #[]) :: (29, tabObj ps14) :: (tl ++ R14) ∧ 233 ∉ (tl ++ R14).map (·.1) ∧ 29 ∉ (tl ++ R14).map (·.1) ∧ DatAll (tl ++ R14) ys (((refs e.dat).take i).map hand)) rfl F15 N14 (up2 hN1) (by omega) ⟨[], rfl, St14.n1, St14.n2, .nil⟩ ?_ ?_ ?_
    · rintro i ys nw ⟨tl, rfl, _⟩
      exact up2 (List.mem_append_right _ hN1)
    · rintro C i v ys nw s₃ m₃ hC hvi hi ⟨tl, rfl, hn1, hn2, hys⟩ hn hm3 F3 N3 hCn hCL
      walk_at "my steps"
      unfold Stop
      have hlt : i < (refs e.dat).length := by
        obtain ⟨q, _⟩ := List.getElem?_eq_some_iff.mp hvi
        omega
      obtain ⟨v', hv', hdv⟩ := hus.get hlt
      rw [hvi] at hv'; cases hv'
      refine c_hand (by omega) 9 (refs_good 9 hcg _ (List.getElem_mem hlt)) X' T' (Led.of F3 (news_tail (news_tail N3))) (by decide) (by decide) (hdv.mono fun q hq => List.mem_append_right _ hq) fun r h' tk' tl' S Dr => ?_
      obtain ⟨S', n1', n2'⟩ := iter_step S N3 hn1 hn2
      refine ⟨h', tk', _, rfl, S', tl' ++ tl, rfl, n1', n2', ?_⟩
      rw [List.take_add_one, List.getElem?_eq_getElem hlt, List.map_append]
      rw [← List.append_assoc] at Dr
      exact DatAll.append (hys.mono fun q hq => memc hq) (.one Dr)
    · rintro D h' tk ys nw k' hy ⟨tl, rfl, hn1, hn2, hys⟩ F16 N16 hD
      rw [List.take_of_length_le (by omega)] at hys
      have St16 : LawL _ _ _ #[] ps14 (tl ++ R14) := ⟨news_tail N16, .inl rfl, St14.tr, hn1, hn2⟩
      have St17 := St16.push N16 (by show Value.type "list" ≠ Value.none; exact fun h => nomatch h)
      have s17 : ∀ q ∈ R14, q ∈ (D, lstO ys k') :: (tl ++ R14) := fun q hq => List.mem_cons_of_mem _ (List.mem_append_right _ hq)
      have hD17 : (D, lstO ys k') ∈ (D, lstO ys k') :: (tl ++ R14) := List.mem_cons_self
      replace hys := hys.mono fun q hq => List.mem_cons_of_mem (D, lstO ys k') hq
      clear N16 St16 St14 F15 N14
      generalize (D, lstO ys k') :: (tl ++ R14) = R17 at *
      replace hus := hus.mono s17
      replace hv := hv.mono s17
      replace hm := s17 _ hm
      replace hvs := hvs.mono s17
      replace hN1 := s17 _ hN1
      have N17 := St17.nw
      refine m_ne_lists (lo := 1) (hi := 2) (n := 9) N17 (up2 (s17 _ hl14)) (up2 hD17) (fun d hd => ?_) (by dsimp only [callerA, Around.deeper]; decide) ((hy14.mono s17).mono fun _ h => up2 h) (hys.mono fun _ h => up2 h) ?_
      · obtain ⟨d', hd', rfl⟩ := List.mem_map.mp hd
        exact good_hand (by omega) 9 (refs_good 9 hcg d' hd')
      walk_at "my steps"
      unfold Stop
      rename Fr _ _ _ _ => F18
      rename News _ _ _ _ => N18
      have St18 := St17.re N18
      clear St17
      refine forG F18 ?_ (by intro _; with_unfolding_all rfl)
      refine iter_rels e F18 N18 ?_ ?_
      · cases e with
        | one x y =>
          dsimp only [Cd.word] at hm
          walk_at "my steps"
          rename Fr _ _ _ _ => F19
          rename News _ _ _ _ => N19
          exact ⟨_, [.ref a], 0, _, _, rfl, rfl, F19, N19, .one hv⟩
        | two x y z w =>
          dsimp only [Cd.word] at hm
          rcases hvs with _ | ⟨hr1, _ | ⟨hr2, ⟨⟩⟩⟩
          cases hr2 with
          | tuple hm2 hr3 =>
          rcases hr3 with _ | ⟨⟨⟩, _ | ⟨hr3, ⟨⟩⟩⟩
          walk_at "my steps"
          rename Fr _ _ _ _ => F19
          rename News _ _ _ _ => N19
          exact ⟨_, [_, _], 0, _, _, rfl, rfl, F19, N19, .cons hr1 (.one hr3)⟩
      · intro Lr vs kr h19 tk19 F19 N19 hrl
        have St19 := St18.push N19 (by show Value.type "list" ≠ Value.none; exact fun h => nomatch h)
        have s19 : ∀ q ∈ R17, q ∈ (Lr, lstO vs kr) :: R17 := fun q hq => List.mem_cons_of_mem _ hq
        have hLr : (Lr, lstO vs kr) ∈ (Lr, lstO vs kr) :: R17 := List.mem_cons_self
        clear F18 St18 N19
        generalize (Lr, lstO vs kr) :: R17 = R19 at *
        replace hus := hus.mono s19
        replace hN1 := s19 _ hN1
        replace hrl := hrl.mono s19
        have hrn := hrl.length
        refine for_list (fun _ m nw => LawJ ps14 _ R19 m nw) rfl rfl rfl F19 St19.nw (up2 hLr) ?_ ⟨#[], [], rfl, St19.tw, St19.n1, St19.n2, rfl⟩ ?_ ?_
        · rintro i m nw ⟨psW, tl, rfl, _⟩
          exact up2 (List.mem_append_right _ hLr)
        · rintro i v m₁ nw I o s₃ hvi ⟨psW, tl, rfl, hTW, hn1, hn2, hnm⟩ ho F3 N3 hI
          have hlt : i < e.rels.length := by
            obtain ⟨q, _⟩ := List.getElem?_eq_some_iff.mp hvi
            omega
          obtain ⟨v', hv', hdv⟩ := hrl.get hlt
          rw [hvi] at hv'; cases hv'
          obtain ⟨x, y, exy, hx, hy⟩ := e.rels_of _ (List.getElem_mem hlt)
          rw [exy, relD] at hdv
          cases hdv with
          | tuple hmr hr =>
          rcases hr with _ | ⟨⟨⟩, _ | ⟨⟨⟩, _ | ⟨hxv, _ | ⟨hyv, ⟨⟩⟩⟩⟩⟩
          obtain ⟨okx, gx, zx⟩ := hex x hx
          obtain ⟨oky, gy, zy⟩ := hex y hy
          walk_at "my steps"
          unfold Stop
          rename Fr _ _ _ _ => F4
          rename News _ _ _ _ => N4
          refine c_worths X' T' HC233 (Led.of F4 (news_sub N4 fun q hq => mem_w hq)) hTW hn1 (by decide) (by decide) (hxv.mono fun q hq => List.mem_append_right _ hq) okx gx (by omega) fun h5 tk5 ps5 tl5 S5 hT5 n5 => ?_
          obtain ⟨F5, N5, hT5, n5, m5, hI5⟩ := LawL.worthsI F4 N4 hTW St19.tr hn1 hn2 hI S5 hT5 n5
          clear F4 N4 S5
          walk_at "my steps"
          unfold Stop
          rename Fr _ _ _ _ => F6
          rename News _ _ _ _ => N6
          refine c_worths X' T' HC233 (Led.of F6 (news_sub N6 fun q hq => mem_w hq)) hT5 n5 (by decide) (by decide) (hyv.mono fun q hq => List.mem_append_right _ (List.mem_append_right _ hq)) oky gy (by omega) fun h7 tk7 ps7 tl7 S7 hT7 n7 => ?_
          obtain ⟨F7, N7, hT7, n7, m7, hI7⟩ := LawL.worthsI F6 N6 hT5 St19.tr n5 m5 hI5 S7 hT7 n7
          clear F6 N6 S7
          walk_at "my steps"
          rename Fr _ _ _ _ => F8
          rename News _ _ _ _ => N8
          have ee : tl7 ++ (tl5 ++ (tl ++ R19)) = (tl7 ++ (tl5 ++ tl)) ++ R19 := by simp only [List.append_assoc]
          rw [ee] at N8 hT7 n7 m7 hI7
          exact ForEnd.mk F8 N8 hI7 ⟨ps7, tl7 ++ (tl5 ++ tl), rfl, hT7, n7, m7, hnm⟩
        · rintro h' tk m' nw ⟨psW, tl, rfl, hTW, hn1, hn2, hnm⟩ F20 N20
          have huz : us.length ≤ 100000 := by omega
          walk_at "my steps"
          unfold Stop
          rename Fr _ _ _ _ => F21
          rename News _ _ _ _ => N21
          obtain ⟨R21, St21, ⟨hmv, htp, hls, htx⟩, s21⟩ := LawL.pushs' N21 hTW St19.tr hn1 hn2 (cls_t rfl) (cls_t rfl) (cls_l rfl) (cls_t rfl)
          replace s21 : ∀ q ∈ R19, q ∈ R21 := fun q hq => s21 q (List.mem_append_right _ hq)
          have hgr := refs_good 9 hcg
          have hmz : sz (moveD (refs e.dat)) ≤ 1610 := sz_move fun d hd => Nat.le_trans (refs_sz 9 hcg d hd) hcz
          refine c_refs (vs := [_, _]) (ds := moveT (refs e.dat)) .move X' T' HC29 (St21.ledR F21) St21.tr (of_not_map St21.n2) (by decide) (by decide) hmv (by simp) (.cons (.tuple htx (.cons (.str _ _) (.cons (.bytes _ _) .nil))) (.cons (.tuple htp ((DatAll.take hus 4).mono s21)) .nil)) (good_move hgr) (by have := hmz; rw [moveD] at this; omega) fun l22 lk22 ys22 h22 tk22 ps22 tl22 S22 hT22 o22 hl22 hy22 => ?_
          obtain ⟨F22, St22⟩ := St21.refs F21 S22 hT22 o22
          replace hl22 := List.mem_append_left R21 hl22
          rw [show Dat.tuple (.str (Str.ofString "move") :: moveT (refs e.dat)) = moveD (refs e.dat) from rfl, refs_move] at hy22
          have s22 : ∀ q ∈ R19, q ∈ tl22 ++ R21 := fun q hq => List.mem_append_right _ (s21 q hq)
          clear F21 N21 S22
          have hus22 := hus.mono s22
          have hN22 := s22 _ hN1
          generalize tl22 ++ R21 = R22 at *
          have N22 := St22.nw
          walk_at "my steps"
          unfold Stop
          rename Fr _ _ _ _ => F23
          refine comp_two F23 (by with_unfolding_all rfl) (by decide) (by with_unfolding_all rfl) (by decide) (by with_unfolding_all rfl) (by with_unfolding_all rfl) rfl (wpAny_held ?_) (by intro _; with_unfolding_all rfl) (by intro _ _; with_unfolding_all rfl)
          walk_at "my steps"
          rename Fr _ _ _ _ => F24
          rename News _ _ _ _ => N24
          obtain ⟨R24, St24, hl24, s24⟩ := LawL.push1 N24 St22.tw St22.tr St22.n1 St22.n2 (cls_l rfl)
          have hu24 := (DatAll.take (hus22.mono s24) 4)
          have hlen : us.length = (refs e.dat).length := hus.length
          have hfl : (((refs e.dat).take 4).flatMap refs).length ≤ 1610 := by
            rw [← refs_move]; exact Nat.le_trans (length_refs _) hmz
          have hg4 : ∀ d ∈ (refs e.dat).take 4, Good 0 1 9 d := fun d hd => hgr d (List.mem_of_mem_take hd)
          refine ⟨_, us.take 4, 0, _, _, TwoJ psW ((refs e.dat).take 4) R24, rfl, up2 hl24, by rw [List.length_take]; omega, F24, St24.nw, ⟨ps22, [], rfl, St24.tr, St24.n1, St24.n2, .nil⟩, ?_, ?_, ?_, ?_⟩
          · rintro i ys nw ⟨psR, tl2, rfl, _, _, _, hys⟩
            refine ⟨up2 (List.mem_append_right _ hl24), ?_⟩
            rw [hys.length]
            exact Nat.le_trans (take_flat _ _ _) (Nat.le_trans hfl (by decide))
          · rintro C i v ys nw s₃ m₃ hvi ⟨psR, tl2, rfl, hTR, hn1, hn2, hys⟩ hn hm3 F3 N3 hCn hCL
            have hlt : i < ((refs e.dat).take 4).length := by
              rw [← hu24.length]; exact (List.getElem?_eq_some_iff.mp hvi).1
            obtain ⟨v', hv', hdv⟩ := hu24.get hlt
            rw [hvi] at hv'; cases hv'
            have hmem : ((refs e.dat).take 4)[i] ∈ refs e.dat := List.mem_of_mem_take (List.getElem_mem hlt)
            obtain ⟨ra, rk, ru, rv, rd, rfl, erd, hrm, hrv, hrz⟩ := ref_parts_in hcg hmem hdv
            walk_at "my steps"
            unfold Stop
            refine c_refs .ref X' T' HC29 (Led.of F3 (news_tail N3)) hTR (of_not_map hn2) (by decide) (by decide) (List.mem_append_right _ hrm) hrz (hrv.mono fun q hq => List.mem_append_right _ hq) (by rw [← erd]; exact hgr _ hmem) (by rw [← erd]; have := refs_sz 9 hcg _ hmem; omega) fun l5 lk5 ys5 h5 tk5 ps5 tl5 S5 hT5 o5 hl5 hy5 => ?_
            obtain ⟨S', n1', n2'⟩ := refs_step S5 N3 hn1 hn2 o5
            rw [← erd, ← List.append_assoc] at hy5
            refine ⟨l5, ys5, lk5, h5, tk5, _, rfl, rfl, S', up2 (List.mem_append_left _ (List.mem_append_left _ hl5)), ps5, tl5 ++ tl2, rfl, hT5, n1', n2', ?_⟩
            rw [List.take_add_one, List.getElem?_eq_getElem hlt, List.flatMap_append]
            refine DatAll.append (hys.mono fun q hq => memc hq) ?_
            simpa using hy5
          · rintro C v s₃ m₃ hn hm3 F3 hCL
            walk_at "my steps"
          · rintro D h' tk ys nw k' ⟨psR, tl2, rfl, hTR, hn1, hn2, hys⟩ F25 N25 hD
            rw [List.take_of_length_le (by rw [← hu24.length]; exact Nat.le_refl _)] at hys
            obtain ⟨R26, St26, hD26, s26⟩ := LawL.push1 N25 (St24.tw.mono fun q hq => List.mem_append_right _ hq) hTR hn1 hn2 (cls_l rfl)
            clear N25 N24
            have N26 := St26.nw
            refine m_eq_lists (lo := 0) (hi := 1) (n := 9) (ds := ((refs e.dat).take 4).flatMap refs) N26 (up2 (s26 _ (List.mem_append_right _ (s24 _ hl22)))) (up2 hD26) (fun d hd => ?_) (by dsimp only [callerA, Around.deeper]; decide) (hy22.mono fun q hq => up2 (s26 _ (List.mem_append_right _ (s24 _ hq)))) (hys.mono fun q hq => up2 (s26 _ hq)) ?_
            · obtain ⟨x, hx, hdx⟩ := List.mem_flatMap.mp hd
              exact refs_good 9 (hg4 x hx) d hdx
            walk_at "my steps"
            unfold Stop
            rename Fr _ _ _ _ => F27
            rename News _ _ _ _ => N27
            obtain ⟨R28, St28, ⟨hnum, hone⟩, s28⟩ := LawL.push2 N27 St26.tw St26.tr St26.n1 St26.n2 (cls_t rfl) (cls_t rfl)
            refine c_refs (lo := 0) (hi := 1) (n := 2) (vs := [_]) (ds := [.tuple [.int 1, .int 0]]) .number X' T' HC29 (St28.ledR F27) St28.tr (of_not_map St28.n2) (by decide) (by decide) hnum (by simp) (.one (.tuple hone (.cons (.int _ _) (.one (.int _ _))))) (good_two (good_atom (.str _)) (good_two (n := 0) (.int _) (.int _))) (by decide) fun l29 lk29 ys29 h29 tk29 ps29 tl29 S29 hT29 o29 hl29 hy29 => ?_
            obtain ⟨F29, St29⟩ := St28.refs F27 S29 hT29 o29
            replace hl29 := List.mem_append_left R28 hl29
            rw [refs_num] at hy29
            clear F27 N27 S29
            generalize tl29 ++ R28 = R29 at *
            have N29 := St29.nw
            walk_at "my steps"
            unfold Stop
            rename Fr _ _ _ _ => F30
            rename News _ _ _ _ => N30
            refine m_eq_lists (vs' := []) (lo := 0) (hi := 1) (n := 1) (ds := []) N30 (List.mem_cons_of_mem _ (up2 hl29)) List.mem_cons_self (fun _ h => nomatch h) (by dsimp only [callerA, Around.deeper]; decide) (hy29.mono fun q hq => List.mem_cons_of_mem _ (up2 hq)) .nil ?_
            walk_at "my steps"
            k_end
            w_end
            refine goodW_bool (by assumption) (by assumption) (raisesW_false ?_) ?_
            · wrow_none_raised
            · with_unfolding_all exact rfl)
end
end Mine

theorem PySem.Challenge.cw_pb0239_01_holds : PySem.Challenge.rw_pb0239_01.Holds := by
  exact Mine.law_holds
