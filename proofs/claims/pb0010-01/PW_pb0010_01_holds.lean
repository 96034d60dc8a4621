import PyProof.Rows.All
import Wide.All
import OpenK.AllK
import Wide.FinOn
import Lean
import PySem.Challenge.RW_pb0010_01
set_option Elab.async false
set_option maxRecDepth 100000
set_option compiler.extract_closed false
set_option linter.all false
noncomputable section
section
open PySem PySem.W PyProof.Rows
set_option maxRecDepth 1000000
set_option maxHeartbeats 8000000
namespace Mine
theorem byNo {p : Prop} (h : (p → False) → False) : p := Classical.byContradiction h
open Fast in
noncomputable def topRunT (p : Program) (w : World) (n₀ : Nat) (ann : Option Value) (n : Nat) : SharedT → Thread → Option SharedT :=
  @Nat.rec (fun _ => SharedT → Thread → Option SharedT) (fun _ _ => none) (fun _ ih s t => match through t with
    | true => some s
    | false => match tw6613529449190102663 n₀ ann t with
      | false => none
      | true => match tw10156331382660048174 (tw11892475500146522536 tw14364793385576792824) p w s t with
        | some (s', t') => ih s' t'
        | none => none) n
theorem topRunT_of {p : Program} {w : World} {n₀ : Nat} {ann : Option Value} : ∀ (n : Nat) (s r : SharedT) (t : Thread), topRunT p w n₀ ann n s t = some r → topRun treeTable p w n₀ ann n s.abs t = some r.abs
  | 0, _, _, _, h => by cases h
  | n + 1, s, r, t, h => by
    have h : (match through t with
      | true => some s
      | false => match Fast.tw6613529449190102663 n₀ ann t with
        | false => none
        | true => match Fast.tw10156331382660048174 (Fast.tw11892475500146522536 Fast.tw14364793385576792824) p w s t with
          | some (s', t') => topRunT p w n₀ ann n s' t'
          | none => none) = some r := h
    rw [← Fast.te6613529449190102663, ← Fast.te10156331382660048174, ← Fast.te11892475500146522536, ← Fast.te14364793385576792824] at h
    unfold topRun
    cases ht : through t with
    | true => rw [ht] at h; cases h; rfl
    | false =>
      rw [ht] at h
      cases hk : stepOk n₀ ann t with
      | false => rw [hk] at h; cases h
      | true =>
        rw [hk] at h
        cases hs : stepT (denote treeTable) p w s t with
        | none => rw [hs] at h; cases h
        | some x => obtain ⟨s₂, t₂⟩ := x; rw [hs] at h; rw [stepT_spec hs]; exact topRunT_of n s₂ r t₂ h
noncomputable def bootTree (P : Params) : BT := ((((((((((BT.nil.ins 0 (boot_o_0 P)).ins 1 (boot_o_1 P)).ins 2 (boot_o_2 P)).ins 3 (boot_o_3 P)).ins 4 (boot_o_4 P)).ins 5 (boot_o_5 P)).ins 6 (boot_o_6 P)).ins 7 (boot_o_7 P)).ins 8 (boot_o_8 P)).ins 9 (boot_o_9 P)).ins 10 (boot_o_10 P)
theorem boot_abs (P : Params) : boot_heap P = absHeap (bootTree P) 11 (boot_heap P).life := by kernel_rfl
theorem boot_ns (P : Params) : (boot_heap P).isNs mainGlobals = true := by kernel_rfl
theorem boot_ann (P : Params) : (boot_heap P).nsMap mainGlobals (Str.ofString "__annotations__") = some (.ref 6) := by kernel_rfl
theorem treeLeft {p q : Program} {loose : List Str} {Xt : Shared → Bool} {α : Type} {Yf : Shared → α} {Ya : World → α} {N : Nat}
    (hop : opening p = plainProg p.main.scope.names) (hN : Nat.ble 600 N = true) (hf : ∀ s, fenceModules? p s = some s)
    (h : ∀ w os, (topRunT p w 11 (some (.ref 6)) N ⟨bootTree w.params, 11, (boot_heap w.params).life, ⟨[]⟩, boot_drawn, boot_toks, os⟩ (topStub p)).map (fun x =>
        (fun (s : Shared) => ((staticsOk (importedModules p.main.body) (boot_heap w.params) s.heap && namesBound p s.heap && gensDone s && laidKept (boot_heap w.params) s.heap), openSeen q loose (importedModules p.main.body) Xt true s, Yf s)) x.abs) = some (true, openGood q loose, Ya w)) : LeftO p q loose Xt Yf Ya N true := by
  intro w
  obtain ⟨⟨h0, g0, d0, t0, os⟩, e1, e2⟩ := Option.map_eq_some_iff.mp (boot_open hop hN hf w)
  simp only [Prod.mk.injEq] at e2
  obtain ⟨rfl, rfl, rfl, rfl⟩ := e2
  obtain ⟨x, f1, f2⟩ := Option.map_eq_some_iff.mp (h w os)
  simp only [Prod.mk.injEq] at f2
  obtain ⟨l1, l2, l3⟩ := f2
  have r := topRunT_of _ _ _ _ f1
  unfold SharedT.abs at r
  dsimp only at r
  rw [← boot_abs] at r
  have t : topFrom treeTable p w N ⟨boot_heap w.params, ⟨[]⟩, boot_drawn, boot_toks, os⟩ = some x.abs := by
    unfold topFrom
    dsimp only
    rw [boot_ns, boot_ann]
    show (match true && true with | true => (topRun treeTable p w 11 (some (.ref 6)) N _ (topStub p)).bind _ | false => none) = _
    rw [r]
    show (match staticsOk (importedModules p.main.body) (boot_heap w.params) x.abs.heap && namesBound p x.abs.heap && gensDone x.abs && laidKept (boot_heap w.params) x.abs.heap with | true => _ | false => _) = _
    rw [l1]; rfl
  unfold openEnds
  rw [e1]
  show (topFrom treeTable p w N _).map _ = _
  rw [t]
  exact congrArg some (Prod.ext l2 l3)
noncomputable def hdView : Program := let p := PySem.Challenge.rw_pb0010_01.row.toRowW.1; { p with main := { p.main with body := ([1, 2, 3, 5, 7, 8, 9, 10, 11, 12, 14, 15, 16, 17, 18, 19, 20, 21, 22, 24, 25, 26, 27, 28, 29, 30, 31, 32] : List Nat).filterMap fun i => p.main.body[i]? } }
theorem hdSaid : PySem.W.OpenLaw.wellSaid PySem.Challenge.rw_pb0010_01 = true := (congrFun PySem.W.Fast.te9446332074065402090 _).trans (by kernel_rfl)
theorem hdOpen : opening PySem.Challenge.rw_pb0010_01.row.prog = plainProg PySem.Challenge.rw_pb0010_01.row.prog.main.scope.names := by kernel_rfl
theorem hdFence : ∀ s, fenceModules? PySem.Challenge.rw_pb0010_01.row.prog s = some s := by intro s; kernel_rfl
noncomputable def headOf (H : Hook) (said : OpenRow.wellSaid PySem.Challenge.rw_pb0010_01.row = true) := fun hl hw hc => PySem.W.holds_open (r := PySem.Challenge.rw_pb0010_01.row) (q := hdView) (loose := []) (Xt := fun s => xlAt hdView [] s && recOk (RowW.records PySem.Challenge.rw_pb0010_01.row.toRowW) s) (XP := XL hdView []) (Yf := Hook.obs H) (Ya := Hook.val H) (YP := Hook.says H) (N := 3936) (treeLeft hdOpen (by decide) hdFence hl) (Hook.of H) (Hook.keeps H) (fun s e => xl_of s (Bool.and_eq_true_iff.mp e).1) XL.keeps (by rfl) (by rfl) (by rfl) (fun s e => recFacts_of (Bool.and_eq_true_iff.mp e).2) (by rfl) said (by decide +kernel) ⟨rfl, rfl, rfl, rfl, rfl, by decide +kernel⟩ hw hc
local macro_rules | `(tactic| o_law) => `(tactic| refine holds_law hdSaid fun said => ?_)
local macro_rules | `(tactic| o_head $H) => `(tactic| (refine headOf $H (by assumption) ?hl ?hw ?hc; (case hl => (intro w os; kernel_rfl))))
open_top hd for PySem.Challenge.rw_pb0010_01
end Mine
end
section
open PySem PySem.W PyProof.Rows PySem.Calls
set_option maxRecDepth 100000
set_option maxHeartbeats 400000
namespace Mine
noncomputable abbrev PR : Program := PySem.Challenge.rw_pb0010_01.row.prog
noncomputable abbrev TP (mean : ExcName → Option Value) (mg mb : Str → Option Value) (h : Heap) : Prop := Top hdView (looseW hdView []) mean mg mb h
noncomputable abbrev topA (dp un : Nat) (gd : Option (List Code)) (env : Env) (outer : List Env) : Around := { handled := none, depth := dp, frames := some (env :: outer), guards := gd, units := un }

noncomputable def KeepsBut (as : List Addr) (h h' : Heap) : Prop := ∀ b o, b ∉ as → h.get? b = some o → h'.get? b = some o
noncomputable def NewAt (h h' : Heap) (new : List (Addr × Obj)) : Prop := ∀ p ∈ new, h'.get? p.1 = some p.2 ∧ h.get? p.1 = none
noncomputable abbrev adrs (l : List (Addr × Obj)) : List Addr := l.map (·.1)

noncomputable def Spec (w : World) (mean : ExcName → Option Value) (mg mb : Str → Option Value) (f : Addr) (args : List Value) (dep un₀ : Nat)
    (old : List (Addr × Obj)) (Pre : Heap → Prop) (Post : Value → List (Addr × Obj) → List (Addr × Obj) → Prop) : Prop :=
  ∀ (dp un : Nat) (gd : Option (List Code)) (env : Env) (outer : List Env) (A₀ : Around) (base h₀ : Heap) (L : Addr) (m : Str → Option Value) (s : Shared) (Q E : Value → Shared → Prop),
    Below A₀ base outer h₀ → Fr h₀ L s.heap m → (hd.heap_1 w.params).In h₀ → News h₀ L s.heap old → TP mean mg mb h₀ → env.frame = some L → env.scope.kind = .function →
    dp + dep < recursionLimit → un + un₀ < cLine → Pre s.heap →
    (∀ r upd new h' tk', adrs upd = adrs old → Fr h₀ L h' m → News h₀ L h' upd → KeepsBut (adrs old) s.heap h' → NewAt s.heap h' new → Post r upd new → Q r { s with heap := h', toks := tk' }) →
    wpAny (model PySem.Challenge.rw_pb0010_01.row.prog w) (topA dp un gd env outer) (call (.ref f) args) Q E s

noncomputable def Done (s : Shared) (g : Heap) (L' : Addr) (old : List (Addr × Obj)) (Post : Value → List (Addr × Obj) → List (Addr × Obj) → Prop) (v : Value) (s' : Shared) : Prop :=
  ∃ h' tk' m' upd new, s' = { s with heap := h', toks := tk' } ∧ Fr g L' h' m' ∧ News g L' h' upd ∧ News g L' h' new ∧ adrs upd = adrs old ∧ (∀ p ∈ new, ∀ q ∈ upd, p.1 ≠ q.1) ∧ Post v upd new

noncomputable abbrev retOf (fl : Flow) : Value := match fl with | .ret v => v | _ => .none

theorem spec_enter {w : World} {mean : ExcName → Option Value} {mg mb : Str → Option Value} {f : Addr} {args : List Value} {dep un₀ : Nat}
    {old : List (Addr × Obj)} {Pre : Heap → Prop} {Post : Value → List (Addr × Obj) → List (Addr × Obj) → Prop}
    {name qual : PySem.Str} {params : Arguments} {body : List Stmt} {scope : Scope} {dV kV doc pm cdv ct oc : Value} {an od : Option Addr} {osl : Array (Option Value)} (binds : List (PySem.Str × Value))
    (ho : (hd.heap_1 w.params).lookup f = some ⟨oc, od, .func (fnOf name qual params body scope dV kV doc pm an cdv ct), osl⟩) (hcd : codeIn (hd.heap_1 w.params) cdv qual = true)
    (hbind : ∀ s, BindsTo s (fnOf name qual params body scope dV kV doc pm an cdv ct) ⟨args, []⟩ binds) (hloc : ∀ y ∈ binds, scope.names.lookup y.1 = some .local)
    (hco : scope.isCoroutine = false) (hgen : scope.isGenerator = false) (hk : scope.kind = .function) (hcell : ∀ x ∈ scope.names, x.2 ≠ .cell)
    (h : ∀ (dp un : Nat) (gd : Option (List Code)) (env : Env) (outer : List Env) (base g : Heap) (L' : Addr) (h₁ : Heap) (s : Shared) (tk : Nat),
      dp + dep < recursionLimit → un + un₀ < cLine → Pre s.heap → GSub s.heap g (adrs old) →
      Fr g L' h₁ (fun y => binds.reverse.lookup y) → News g L' h₁ old → Below (topA dp un gd env outer) base (env :: outer) g → (hd.heap_1 w.params).In g → TP mean mg mb g →
      wpAny (model PySem.Challenge.rw_pb0010_01.row.prog w) ((topA dp un gd env outer).deeper (envOf qual scope L' f cdv)) (execs body (envOf qual scope L' f cdv))
        (fun fl s' => Done s g L' old Post (retOf fl) s') (fun _ _ => False) { s with heap := h₁, toks := tk }) :
    Spec w mean mg mb f args dep un₀ old Pre Post := by
  intro dp un gd env outer A₀ base h₀ L m s Q E B F X N T hf hke hd hu hP ret
  refine wpAny_call ?_
  refine code_defG B F X N T rfl hf hke ho hcd (by show dp < _; omega) (hbind s) hloc ?_ hco hgen hk hcell
  intro g L' h₁ FG F' N' B' X' T' G'
  refine wpAny_mono (h dp un gd env outer base g L' h₁ s _ hd hu hP G' F' N' B' X' T') ?_ ?_
  · rintro fl s' ⟨h', tk', m', upd, new, rfl, F2, N2, N3, ha, hne, hp⟩
    refine ⟨L', m', upd ++ new, F2, fun p hp => (List.mem_append.mp hp).elim (N2 p) (N3 p), fun kF kN => ?_⟩
    refine ret _ upd new h' tk' ha kF (fun p hp => kN p (List.mem_append_left _ hp)) (fun b o hb e => F2.keep b o (G' b o e hb)) (fun p hp => ⟨(N3 p hp).1, ?_⟩) hp
    cases e : s.heap.get? p.1 with
    | none => rfl
    | some o =>
      by_cases hm : p.1 ∈ adrs old
      · rw [← ha] at hm
        obtain ⟨q, hq, e2⟩ := List.mem_map.mp hm
        exact absurd e2.symm (hne p ‹_› q hq)
      · have := G' _ _ e hm
        rw [(N3 p ‹_›).2.2] at this
        cases this
  · exact fun _ _ x => x.elim

theorem one_adr {upd : List (Addr × Obj)} {d : Addr} {o : Obj} (ha : adrs upd = adrs [(d, o)]) : ∃ o', upd = [(d, o')] := by
  cases upd with
  | nil => exact absurd ha (List.cons_ne_nil _ _).symm
  | cons p r =>
    have h1 : p.1 = d := (List.cons.inj ha).1
    have h2 : r.map (·.1) = [] := (List.cons.inj ha).2
    have h3 : r = [] := List.map_eq_nil_iff.mp h2
    obtain ⟨d', o'⟩ := p
    have h4 : d' = d := h1
    subst h4
    subst h3
    exact ⟨o', rfl⟩
theorem Done.one {s : Shared} {g h' : Heap} {L' d : Addr} {o o' : Obj} {m' : Str → Option Value} {Post : Value → List (Addr × Obj) → List (Addr × Obj) → Prop} {v : Value} {tk : Nat} (F : Fr g L' h' m') (N : News g L' h' [(d, o')]) (hp : Post v [(d, o')] []) :
    Done s g L' [(d, o)] Post v { s with heap := h', toks := tk } :=
  ⟨h', tk, m', [(d, o')], [], rfl, F, N, News.nil, rfl, (fun _ hp => nomatch hp), hp⟩
theorem Done.new {s : Shared} {g h' : Heap} {L' : Addr} {m' : Str → Option Value} {Post : Value → List (Addr × Obj) → List (Addr × Obj) → Prop} {v : Value} {tk : Nat} (new : List (Addr × Obj)) (F : Fr g L' h' m') (N : News g L' h' new) (hp : Post v [] new) :
    Done s g L' [] Post v { s with heap := h', toks := tk } :=
  ⟨h', tk, m', [], new, rfl, F, News.nil, N, rfl, (fun _ _ _ hq => nomatch hq), hp⟩
theorem kb_nil {h h' : Heap} (k : KeepsBut [] h h') : ∀ b o, h.get? b = some o → h'.get? b = some o := fun b o e => k b o (by simp) e

section
variable {w : World} {mean : ExcName → Option Value} {mg mb : Str → Option Value} {f : Addr} {args : List Value} {dep un₀ : Nat}
    {Pre : Heap → Prop} {Post : Value → List (Addr × Obj) → List (Addr × Obj) → Prop} {dp un : Nat} {gd : Option (List Code)} {env : Env} {outer : List Env} {A₀ : Around} {base h₀ : Heap} {L : Addr} {m : Str → Option Value} {s : Shared} {Q E : Value → Shared → Prop} {news : List (Addr × Obj)}
theorem NewAt.ledger {h h' : Heap} {new : List (Addr × Obj)} (Z : NewAt h h' new) (F : Fr h₀ L h m) : News h₀ L h' new := fun p hp => by
  refine ⟨(Z p hp).1, fun e => ?_, ?_⟩
  · obtain ⟨oL, _, _, hL, _⟩ := F.ns
    have := (Z p hp).2
    rw [e, hL] at this; cases this
  · cases e : h₀.get? p.1 with
    | none => rfl
    | some o => have := F.keep _ _ e; rw [(Z p hp).2] at this; cases this
theorem NewAt.apart {h h' : Heap} {new : List (Addr × Obj)} (Z : NewAt h h' new) (N : News h₀ L h news) : ∀ q ∈ news, ∀ p ∈ new, q.1 ≠ p.1 := fun q hq p hp e => by
  have := (Z p hp).2
  rw [← e, (N q hq).1] at this; cases this

theorem Spec.use0 (S : Spec w mean mg mb f args dep un₀ [] Pre Post)
    (B : Below A₀ base outer h₀) (F : Fr h₀ L s.heap m) (X : (hd.heap_1 w.params).In h₀) (N : News h₀ L s.heap news) (T : TP mean mg mb h₀) (hf : env.frame = some L) (hk : env.scope.kind = .function)
    (hd : dp + dep < recursionLimit) (hu : un + un₀ < cLine) (hP : Pre s.heap)
    (ret : ∀ r new h' tk', Fr h₀ L h' m → News h₀ L h' (new ++ news) → (∀ q ∈ news, ∀ p ∈ new, q.1 ≠ p.1) → (∀ b o, s.heap.get? b = some o → h'.get? b = some o) → Post r [] new → Q r { s with heap := h', toks := tk' }) :
    wpAny (model PySem.Challenge.rw_pb0010_01.row.prog w) (topA dp un gd env outer) (call (.ref f) args) Q E s := by
  refine S dp un gd env outer A₀ base h₀ L m s Q E B F X News.nil T hf hk hd hu hP ?_
  intro r upd new h' tk' ha F' N' K Z hp
  have hu0 : upd = [] := List.map_eq_nil_iff.mp ha
  subst hu0
  exact ret r new h' tk' F' (fun p hp => (List.mem_append.mp hp).elim (Z.ledger F p) ((N.grown (kb_nil K)) p)) (Z.apart N) (kb_nil K) hp

theorem Spec.use1 {d : Addr} {o : Obj} {gg : Obj → List (Addr × Obj)} (S : Spec w mean mg mb f args dep un₀ [(d, o)] Pre Post)
    (B : Below A₀ base outer h₀) (F : Fr h₀ L s.heap m) (X : (hd.heap_1 w.params).In h₀) (N : News h₀ L s.heap news) (T : TP mean mg mb h₀) (U : UpdF d o news gg) (hf : env.frame = some L) (hk : env.scope.kind = .function)
    (hd : dp + dep < recursionLimit) (hu : un + un₀ < cLine) (hP : Pre s.heap)
    (ret : ∀ r o' new h' tk', Fr h₀ L h' m → News h₀ L h' (new ++ gg o') → (∀ q ∈ news, ∀ p ∈ new, q.1 ≠ p.1) → KeepsBut [d] s.heap h' → Post r [(d, o')] new → Q r { s with heap := h', toks := tk' }) :
    wpAny (model PySem.Challenge.rw_pb0010_01.row.prog w) (topA dp un gd env outer) (call (.ref f) args) Q E s := by
  refine byNo fun hno => ?_
  obtain ⟨pre, post, rfl, hg, h1, h2⟩ := U.split
  refine hno ?_
  clear hno
  refine S dp un gd env outer A₀ base h₀ L m s Q E B F X (fun p hp => N p (by rw [List.mem_singleton.mp hp]; exact List.mem_append_right _ (.head _))) T hf hk hd hu hP ?_
  intro r upd new h' tk' ha F' N' K Z hp
  obtain ⟨o', rfl⟩ : ∃ o', upd = [(d, o')] := by
    exact one_adr ha
  refine ret r o' new h' tk' F' ?_ (Z.apart N) K hp
  rw [hg]
  intro p hp
  rcases List.mem_append.mp hp with hp | hp
  · exact Z.ledger F p hp
  rcases List.mem_append.mp hp with hp | hp
  · have := N p (List.mem_append_left _ hp)
    exact ⟨K _ _ (fun z => h1 p hp (List.mem_singleton.mp z)) this.1, this.2⟩
  rcases List.mem_cons.mp hp with rfl | hp
  · exact N' _ (.head _)
  · have := N p (List.mem_append_right _ (.tail _ hp))
    exact ⟨K _ _ (fun z => h2 p hp (List.mem_singleton.mp z)) this.1, this.2⟩
end
end Mine
end
section
open PySem PySem.W PyProof.Rows PyProof.Rows.LCg
set_option maxRecDepth 100000
set_option maxHeartbeats 1000000
namespace Mine
theorem nmOff {D : Addr} {l : List (Addr × Obj)} (h : Off1 D l) : ∀ p ∈ l, @Ne Nat p.1 D := by
  induction l with
  | nil => intro p hp; cases hp
  | cons a r ih =>
    intro p hp
    rcases List.mem_cons.mp hp with rfl | hp
    · exact h.1
    · exact ih h.2 p hp
theorem nmLt {d : Addr} {l : List (Addr × Obj)} (h : AllLt d l) : ∀ p ∈ l, @LT.lt Nat _ p.1 d := by
  induction l with
  | nil => intro p hp; cases hp
  | cons a r ih =>
    intro p hp
    rcases List.mem_cons.mp hp with rfl | hp
    · exact h.1
    · exact ih h.2 p hp
variable {a b d : Addr} {o : Obj} {l l' : List (Addr × Obj)}
inductive HasA (a : Addr) : List (Addr × Obj) → Prop
  | hd {o : Obj} {l : List (Addr × Obj)} : HasA a ((a, o) :: l)
  | tl {p : Addr × Obj} {l : List (Addr × Obj)} : HasA a l → HasA a (p :: l)
theorem HasA.mem : ∀ {l : List (Addr × Obj)}, HasA a l → ∃ o, (a, o) ∈ l
  | _, .hd => ⟨_, .head _⟩
  | _, .tl h => let ⟨o, m⟩ := HasA.mem h; ⟨o, .tail _ m⟩
theorem ne_o (h : Off1 b l) (m : HasA a l) : @Ne Nat a b := let ⟨o, e⟩ := m.mem; nmOff h (a, o) e
theorem ne_o' (h : Off1 a l) (m : HasA b l) : @Ne Nat a b := (ne_o h m).symm
theorem ne_l (h : AllLt b l) (m : HasA a l) : @Ne Nat a b := let ⟨o, e⟩ := m.mem; Nat.ne_of_lt (nmLt h (a, o) e)
theorem ne_l' (h : AllLt a l) (m : HasA b l) : @Ne Nat a b := (ne_l h m).symm
theorem all_o (h : Off1 d l) (e : Off1 d l → Off1 d l') : ∀ p ∈ l', @Ne Nat p.1 d := nmOff (e h)
theorem all_l (h : AllLt d l) (e : AllLt d l → AllLt d l') : ∀ p ∈ l', @Ne Nat p.1 d := fun p hp => Nat.ne_of_lt (nmLt (e h) p hp)
theorem all_o1 (h : Off1 d l) (e : Off1 d l → Off1 d l') : Off1 d l' := e h
theorem all_l1 (h : AllLt d l) (e : AllLt d l → AllLt d l') : Off1 d l' := by
  have k := all_l h e
  clear h e
  induction l' with
  | nil => trivial
  | cons a r ih => exact ⟨k _ List.mem_cons_self, ih fun p hp => k p (List.mem_cons_of_mem _ hp)⟩
theorem nwPick {h₀ h : Heap} {L : Addr} {a : Addr} {o : Obj} {l l' : List (Addr × Obj)} (N : News h₀ L h l') (m : (a, o) ∈ l') (R : News h₀ L h l) : News h₀ L h ((a, o) :: l) := fun p hp => by
  rcases List.mem_cons.mp hp with h | h
  · rw [h]; exact N _ m
  · exact R p h
theorem nwDrop {h₀ h : Heap} {L : Addr} {p : Addr × Obj} {l : List (Addr × Obj)} (N : News h₀ L h (p :: l)) : News h₀ L h l := fun q hq => N q (.tail _ hq)
theorem room_le {x k c : Nat} {lim : Nat} (h : x + k < lim) (e : c ≤ k) : x + c < lim := Nat.lt_of_le_of_lt (Nat.add_le_add_left e x) h
theorem room_le2 {x k b c : Nat} {lim : Nat} (h : x + k < lim) (e : b + c ≤ k) : x + b + c < lim := by omega
theorem room_le3 {x k b c d : Nat} {lim : Nat} (h : x + k < lim) (e : b + c + d ≤ k) : x + b + c + d < lim := by omega
end Mine
end
section
open PySem PySem.W PyProof.Rows PyProof.Rows.LCg
set_option maxRecDepth 100000
set_option maxHeartbeats 1000000
namespace Mine
theorem nm31 {I C D : Addr} : ∀ {l : List (Addr × Obj)}, Off3 I C D l → Off1 I l
  | [], _ => trivial
  | _ :: _, x => ⟨x.1.1, nm31 x.2⟩
theorem nm32 {I C D : Addr} : ∀ {l : List (Addr × Obj)}, Off3 I C D l → Off1 C l
  | [], _ => trivial
  | _ :: _, x => ⟨x.1.2.1, nm32 x.2⟩
theorem subKeep {α : Type} {a : α} {l l' : List α} (h : ∀ p ∈ l, p ∈ l') : ∀ p ∈ a :: l, p ∈ a :: l' := fun p hp => by
  rcases List.mem_cons.mp hp with rfl | hp
  · exact .head _
  · exact .tail _ (h p hp)
theorem subSkip {α : Type} {a : α} {l l' : List α} (h : ∀ p ∈ l, p ∈ l') : ∀ p ∈ l, p ∈ a :: l' := fun p hp => .tail _ (h p hp)
theorem subPick {α : Type} {a : α} {l l' : List α} (m : a ∈ l') (h : ∀ p ∈ l, p ∈ l') : ∀ p ∈ a :: l, p ∈ l' := fun p hp => by
  rcases List.mem_cons.mp hp with rfl | hp
  · exact m
  · exact h p hp
theorem subApp {α : Type} {x l l' : List α} (h1 : ∀ p ∈ x, p ∈ l') (h : ∀ p ∈ l, p ∈ l') : ∀ p ∈ x ++ l, p ∈ l' := fun p hp => (List.mem_append.mp hp).elim (h1 p) (h p)
theorem subL {α : Type} {x l : List α} : ∀ p ∈ x, p ∈ x ++ l := fun _ hp => List.mem_append_left _ hp
theorem subR {α : Type} {x l l' : List α} (h : ∀ p ∈ l, p ∈ l') : ∀ p ∈ l, p ∈ x ++ l' := fun p hp => List.mem_append_right _ (h p hp)
theorem memR {α : Type} {a : α} {x l : List α} (h : a ∈ l) : a ∈ x ++ l := List.mem_append_right _ h
theorem offT {D : Addr} {p : Addr × Obj} {l : List (Addr × Obj)} (h : Off1 D (p :: l)) : Off1 D l := h.2
end Mine
end
section
open PySem PySem.W PyProof.Rows PySem.Calls
set_option maxRecDepth 100000
set_option maxHeartbeats 1000000
namespace Mine
theorem dict_mf (o : Obj) (f) : (o.mapFields f).dict = o.dict := by
  obtain ⟨c, d, dt, sl⟩ := o; cases dt <;> rfl

noncomputable def TbAt (base h : Heap) (e : Addr) (vs : Array Value) : Option Value → Prop
  | none => vs[1]? = some .none
  | some f => ∃ T oT ts, vs[1]? = some (.ref T) ∧ base.get? T = none ∧ T ≠ e ∧ h.get? T = some oT ∧ oT.data = .fields ts ∧ ts[3]? = some f
noncomputable def ExX (base : Heap) (l : List Env) (e : Addr) (cls : Value) (dc : Option Addr) (fl : Option Value) (h : Heap) : Prop :=
  base.StaysIn h ∧ base.get? e = none ∧ h.FunFrames base l ∧ ∃ oe vs, h.get? e = some oe ∧ oe.cls = cls ∧ oe.dict = dc ∧ oe.data = .fields vs ∧ 1 < vs.size ∧ TbAt base h e vs fl

theorem noneOfStays {base B : Heap} (k : base.StaysIn B) {b : Addr} (e : B.get? b = none) : base.get? b = none := by
  cases q : base.get? b with
  | none => rfl
  | some o => have := k b o q; rw [e] at this; cases this
theorem ExX.base {base B h : Heap} {l : List Env} {e : Addr} {cls : Value} {dc : Option Addr} {fl : Option Value} (k : base.StaysIn B) (x : ExX B l e cls dc fl h) : ExX base l e cls dc fl h := by
  refine byNo fun hno => ?_
  obtain ⟨x1, x2, x3, oe, vs, h1, h2, h3, h4, h5, h6⟩ := x
  refine hno ?_
  clear hno
  refine ⟨fun b o q => x1 b o (k b o q), noneOfStays k x2, funFrames_base k x3, oe, vs, h1, h2, h3, h4, h5, ?_⟩
  cases fl with
  | none => exact h6
  | some f => obtain ⟨T, oT, ts, t1, t2, t3⟩ := h6; exact ⟨T, oT, ts, t1, noneOfStays k t2, t3⟩
theorem ExX.pop {base h : Heap} {env : Env} {l : List Env} {e : Addr} {cls : Value} {dc : Option Addr} {fl : Option Value} (x : ExX base (env :: l) e cls dc fl h) : ExX base l e cls dc fl h := by
  refine byNo fun hno => ?_
  obtain ⟨x1, x2, ⟨_, _, x3⟩, x4⟩ := x
  refine hno ?_
  clear hno
  exact ⟨x1, x2, x3, x4⟩

section
variable {M : Model} {A : Around} {E : Value → Shared → Prop} {s : Shared} {base : Heap} {env : Env} {outer l : List Env} {L e : Addr} {cls : Value} {dc : Option Addr}

theorem entryX {oe : Obj} {vs : Array Value} {head : Value} {hadNext : Bool} {Q : Unit → Shared → Prop} (hfr : A.frames = some (env :: outer)) (hf : env.frame = some L)
    (hk : base.StaysIn s.heap) (hen : base.get? e = none) (hl : s.heap.FunFrames base (env :: outer)) (he : s.heap.get? e = some oe) (hd : oe.data = .fields vs) (hsz : 1 < vs.size)
    (h : ∀ h', ExX base (env :: outer) e oe.cls oe.dict (some (rawInt L)) h' → s.heap.UpToSlots h' → Q () { s with heap := h' }) :
    wpAny M A (do let a ← frameOf env; let pl ← entryPlaceOf L hadNext; let b ← EntryCells.newEntry head a .none (rawInt L) .none pl; setField (.ref e) 1 b) Q E s := by
  have off : e ∉ (env :: outer).filterMap (·.frame) := fun hm => by
    obtain ⟨_, o, ho, hn⟩ := hl.mem hm
    rw [he] at ho; cases ho; exact hn _ hd
  refine wpAny_bind (wpAny_frameOf_fun hfr hl hf fun h₁ S => ?_)
  refine wpAny_bind (wpAny_entryPlaceOf fun pl hpl => ?_)
  unfold EntryCells.newEntry newFields
  refine wpAny_bind (wpAny_newObj_type ?_ (hpl.sizeOk5 _ _ _ _ _))
  generalize ho : ({ cls := .type "traceback", dict := none, data := .fields ([head, .ref L, .none, rawInt L, .none] ++ (if pl.isEmpty then List.replicate 6 Value.none else pl)).toArray } : Obj) = tb
  have hT3 : ∃ ts, tb.data = .fields ts ∧ ts[3]? = some (rawInt L) := by
    subst ho; exact ⟨_, rfl, by simp⟩
  have hfree : tb.isFreed = false := by subst ho; rfl
  have he₁ : h₁.get? e = some oe := (S.2.1 e off).trans he
  have he₂ := Heap.get?_push_of_some (h := h₁) tb he₁
  have hT₂ := Heap.get?_push_size h₁ (o := tb) hfree
  have ne : h₁.objs.size ≠ e := Nat.ne_of_gt (Heap.lt_size he₁)
  refine wpAny_setField he₂ hd hsz (h _ ?_ ?_)
  all_goals
    have keep : ∀ b o, b ≠ e → h₁.get? b = some o → ((h₁.push tb).update e (Obj.mapFields (·.setIfInBounds 1 (Value.ref h₁.objs.size)))).get? b = some o := fun b o hb q =>
      (Heap.get?_update_other _ _ (Ne.symm hb)).trans (Heap.get?_push_of_some _ q)
    have kb : ∀ b o, base.get? b = some o → h₁.get? b = some o := fun b o q => (S.2.1 b fun hm => by rw [(hl.mem hm).1] at q; cases q).trans (hk b o q)
    have nr : ∀ b o, s.heap.get? b = some o → (∀ vs, o.data ≠ .fields vs) → b ≠ e := fun b o q hn z => by
      rw [z, he] at q; cases q; exact hn _ hd
  · refine ⟨fun b o q => keep b o (fun z => by rw [z, hen] at q; cases q) (kb b o q), hen, hl.of_keeps fun b o q hn => ?_, _, _, Heap.get?_update_self _ he₂ (Obj.isFreed_of_fields (Obj.data_mapFields hd _)), Obj.cls_mapFields _ _, dict_mf _ _, Obj.data_mapFields hd _, by simpa using hsz, ?_⟩
    · obtain ⟨sl, q'⟩ := S.2.2 b o q
      exact ⟨_, keep b _ (nr b o q hn) q', rfl⟩
    · obtain ⟨ts, ht, h3⟩ := hT3
      refine ⟨h₁.objs.size, tb, ts, by simp [hsz], ?_, ne, (Heap.get?_update_other _ _ ne.symm).trans hT₂, ht, h3⟩
      cases q : base.get? h₁.objs.size with
      | none => rfl
      | some o => exact absurd (Heap.lt_size (kb _ _ q)) (Nat.lt_irrefl _)
  · intro b o q hn
    obtain ⟨sl, q'⟩ := S.2.2 b o q
    exact ⟨sl, keep b _ (nr b o q hn) q'⟩

theorem note_first {Q : Unit → Shared → Prop} (hfr : A.frames = some (env :: outer)) (hf : env.frame = some L) (X : ExX base (env :: outer) e cls dc none s.heap)
    (h : ∀ h', ExX base (env :: outer) e cls dc (some (rawInt L)) h' → s.heap.UpToSlots h' → Q () { s with heap := h' }) : wpAny M A (noteFrame (.ref e) env) Q E s := by
  refine byNo fun hno => ?_
  obtain ⟨x1, x2, x3, oe, vs, h1, rfl, rfl, h4, h5, h6⟩ := X
  refine hno ?_
  clear hno
  unfold noteFrame
  simp only [hf]
  refine wpAny_bind (wpAny_field h1 h4 h6 ?_)
  rw [if_neg (by decide)]
  exact entryX hfr hf x1 x2 x3 h1 h4 h5 h

theorem setT {f g : Value} {Q : Unit → Shared → Prop} {T : Addr} {oe oT : Obj} {vs ts : Array Value} (x1 : base.StaysIn s.heap) (x3 : s.heap.FunFrames base l) (he : s.heap.get? e = some oe) (h5 : 1 < vs.size) (h4 : oe.data = .fields vs) (x2 : base.get? e = none)
    (t1 : vs[1]? = some (.ref T)) (t2 : base.get? T = none) (t3 : T ≠ e) (t4 : s.heap.get? T = some oT) (t5 : oT.data = .fields ts) (t6 : ts[3]? = some f)
    (h : ∀ h', ExX base l e oe.cls oe.dict (some g) h' → h'.get? e = some oe → (∀ b o, s.heap.get? b = some o → (∀ vs, o.data ≠ .fields vs) → h'.get? b = some o) → Q () { s with heap := h' }) :
    wpAny M A (setField (.ref T) 3 g) Q E s := by
  have h3 : 3 < ts.size := (Array.getElem?_eq_some_iff.mp t6).1
  have oth : ∀ b, b ≠ T → (s.heap.update T (Obj.mapFields (·.setIfInBounds 3 g))).get? b = s.heap.get? b := fun b hb => Heap.get?_update_other _ _ (Ne.symm hb)
  have nr : ∀ b o, s.heap.get? b = some o → (∀ vs, o.data ≠ .fields vs) → b ≠ T := fun b o q hn z => by
    rw [z, t4] at q; cases q; exact hn _ t5
  refine wpAny_setField t4 t5 h3 (h _ ⟨fun b o q => (oth b fun z => by rw [z, t2] at q; cases q).trans (x1 b o q), x2, x3.of_keeps fun b o q hn => ⟨o, (oth b (nr b o q hn)).trans q, rfl⟩, oe, vs, (oth e (Ne.symm t3)).trans he, rfl, rfl, h4, h5, ?_⟩ ((oth e (Ne.symm t3)).trans he) fun b o q hn => (oth b (nr b o q hn)).trans q)
  exact ⟨T, _, _, t1, t2, t3, Heap.get?_update_self _ t4 (Obj.isFreed_of_fields (Obj.data_mapFields t5 _)), Obj.data_mapFields t5 _, by simp [h3]⟩

theorem note_on {Q : Unit → Shared → Prop} (hfr : A.frames = some (env :: outer)) (hf : env.frame = some L) (X : ExX base (env :: outer) e cls dc (some .none) s.heap)
    (h : ∀ h', ExX base (env :: outer) e cls dc (some (rawInt L)) h' → s.heap.UpToSlots h' → Q () { s with heap := h' }) : wpAny M A (noteFrame (.ref e) env) Q E s := by
  refine byNo fun hno => ?_
  obtain ⟨x1, x2, x3, oe, vs, h1, rfl, rfl, h4, h5, T, oT, ts, t1, t2, t3, t4, t5, t6⟩ := X
  refine hno ?_
  clear hno
  unfold noteFrame
  simp only [hf]
  refine wpAny_bind (wpAny_field h1 h4 t1 ?_)
  rw [if_pos (show (Value.ref T != Value.none) = true from by simp)]
  refine wpAny_bind (wpAny_field t4 t5 t6 ?_)
  rw [if_neg (show ¬ ((Value.none == rawInt L) = true) from by simp [rawInt])]
  refine wpAny_bind (setT x1 x3 h1 h5 h4 x2 t1 t2 t3 t4 t5 t6 fun h' X' he' k => ?_)
  refine byNo fun hno => ?_
  obtain ⟨y1, y2, y3, _⟩ := X'
  refine hno ?_
  clear hno
  exact entryX hfr hf y1 y2 y3 he' h4 h5 fun h'' X'' u => h h'' X'' fun b o q hn => u b o (k b o q hn) hn

theorem note_again {Q : Unit → Shared → Prop} (hf : env.frame = some L) (X : ExX base l e cls dc (some (rawInt L)) s.heap) (h : Q () s) : wpAny M A (noteFrame (.ref e) env) Q E s := by
  refine byNo fun hno => ?_
  obtain ⟨x1, x2, x3, oe, vs, h1, rfl, rfl, h4, h5, T, oT, ts, t1, t2, t3, t4, t5, t6⟩ := X
  refine hno ?_
  clear hno
  unfold noteFrame
  simp only [hf]
  refine wpAny_bind (wpAny_field h1 h4 t1 ?_)
  rw [if_pos (show (Value.ref T != Value.none) = true from by simp)]
  refine wpAny_bind (wpAny_field t4 t5 t6 ?_)
  rw [if_pos (show (rawInt L == rawInt L) = true from by simp)]
  exact wpAny_pure h

theorem flightX {fr : Option Addr} {f : Value} {Q : Unit → Shared → Prop} (X : ExX base l e cls dc (some f) s.heap)
    (h : ∀ h', ExX base l e cls dc (some (fr.elim .none fun f => rawInt f)) h' → s.heap.UpToSlots h' → Q () { s with heap := h' }) : wpAny M A (setFlight (.ref e) fr) Q E s := by
  refine byNo fun hno => ?_
  obtain ⟨x1, x2, x3, oe, vs, h1, rfl, rfl, h4, h5, T, oT, ts, t1, t2, t3, t4, t5, t6⟩ := X
  refine hno ?_
  clear hno
  unfold setFlight
  refine wpAny_bind (wpAny_field h1 h4 t1 ?_)
  rw [if_pos (show (Value.ref T != Value.none) = true from by simp)]
  exact setT x1 x3 h1 h5 h4 x2 t1 t2 t3 t4 t5 t6 fun h' X' _ k => h h' X' fun b o q hn => ⟨o.slots, k b o q hn⟩

theorem leavingX {fl : Option Value} {Q : Unit → Shared → Prop} (hfr : A.frames = some (env :: outer)) (hf : env.frame = some L) (X : ExX base (env :: outer) e cls dc fl s.heap) (hfl : fl = none ∨ fl = some .none ∨ fl = some (rawInt L))
    (h : ∀ h', ExX base outer e cls dc (some .none) h' → s.heap.UpToSlots h' → Q () { s with heap := h' }) : wpAny M A (leaving env (.ref e)) Q E s := by
  have fin : ∀ s₁ : Shared, ExX base (env :: outer) e cls dc (some (rawInt L)) s₁.heap → s.heap.UpToSlots s₁.heap → (∃ h₁, s₁ = { s with heap := h₁ }) → wpAny M A (setFlight (.ref e) none) Q E s₁ := by
    rintro s₁ X₁ u ⟨h₁, rfl⟩
    exact flightX X₁ fun h' X' u' => h h' X'.pop (u.trans u')
  unfold leaving
  refine wpAny_bind ?_
  rcases hfl with rfl | rfl | rfl
  · exact note_first hfr hf X fun h' X' u => fin _ X' u ⟨_, rfl⟩
  · exact note_on hfr hf X fun h' X' u => fin _ X' u ⟨_, rfl⟩
  · exact note_again hf X (fin _ X (Heap.UpToSlots.refl _) ⟨_, rfl⟩)

theorem passX {fl : Option Value} {Q : Value → Shared → Prop} (hfr : A.frames = some (env :: outer)) (hf : env.frame = some L) (X : ExX base (env :: outer) e cls dc fl s.heap) (hfl : fl = none ∨ fl = some .none ∨ fl = some (rawInt L))
    (h : ∀ h', ExX base (env :: outer) e cls dc (some (rawInt L)) h' → s.heap.UpToSlots h' → E (.ref e) { s with heap := h' }) : notedBy M A env (cameBackBy M A env E) (.ref e) s := by
  have fin : ∀ s₁ : Shared, ExX base (env :: outer) e cls dc (some (rawInt L)) s₁.heap → s.heap.UpToSlots s₁.heap → (∃ h₁, s₁ = { s with heap := h₁ }) → cameBackBy M A env E (.ref e) s₁ := by
    intro s₁ X₁ u hq3
    refine byNo fun hno => ?_
    obtain ⟨h₁, rfl⟩ := hq3
    refine hno ?_
    clear hno
    unfold cameBackBy
    have X₀ := X₁
    refine byNo fun hno => ?_
    obtain ⟨x1, x2, x3, oe, vs, h1, rfl, rfl, h4, h5, T, oT, ts, t1, t2, t3, t4, t5, t6⟩ := X₁
    refine hno ?_
    clear hno
    refine wpAny_bind (wpAny_field h1 h4 t1 ?_)
    rw [if_neg (show ¬ ((Value.ref T == Value.none) = true) from by simp)]
    refine flightX X₀ fun h' X' u' => h h' ?_ (u.trans u')
    rw [hf] at X'
    exact X'
  unfold notedBy
  rcases hfl with rfl | rfl | rfl
  · exact note_first hfr hf X fun h' X' u => fin _ X' u ⟨_, rfl⟩
  · exact note_on hfr hf X fun h' X' u => fin _ X' u ⟨_, rfl⟩
  · exact note_again hf X (fin _ X (Heap.UpToSlots.refl _) ⟨_, rfl⟩)
end
end Mine
end
section
open PySem PySem.W PyProof.Rows PySem.Calls
set_option maxRecDepth 100000
set_option maxHeartbeats 1000000
namespace Mine
section
variable {prog : Program} {w : World} {A : Around} {h : Heap} {g : Array GenState} {d : Drawn} {t : Nat} {os : OsState}
variable {nm q : Str} {C N : Addr} {bs bm bmB : List Value} {hdct : Bool} {sn : List Str} {sub : List Value} {ab : Bool} {col : Option Bool} {dd : Option Addr} {k0 k1 k2 k3 k5 : Option Value} {B newId initId : String}

noncomputable abbrev rawExc (C t : Addr) : Obj := { cls := .ref C, data := .fields #[.ref t, .none, .none, .none, .bool false, .none] }

theorem x_check_new {M : Model} {E : Value → Shared → Prop} (F : ExcBaseFacts B newId initId bmB) (hB : bm.contains (.type B) = true) {rest : List Value} {Q : Unit → Shared → Prop}
    (hC : h.get? C = some (excClassObj nm q C N bs bm hdct sn sub ab col dd k0 k1 k2 k3 k5 newId)) (hq : Q () ⟨h, g, d, t, os⟩) :
    wpAny M A (checkBuiltinCall newId ⟨.ref C :: rest, []⟩) Q E ⟨h, g, d, t, os⟩ := by
  have hcont : (Value.ref C :: bm).contains (.type B) = true := by rw [List.contains_cons, hB, Bool.or_true]
  have hstar := F.noStar
  simp only [checkBuiltinCall, F.newKind, F.newSplit, F.newRow]
  repeat (first | refine wpAny_loadPart_at hC ?_ | (refine wpAny_isSubtype_exc hC ?_; rw [hcont]) | refine wpAny_staticBase_exc hC ?_ | refine wpAny_madeBy_exc hC ?_ | simp only [bne_self_eq_false, Bool.false_eq_true, if_false] | wp_step)
  exact hq

theorem x_new {R : Result → Shared → Prop} (F : ExcBaseFacts B newId initId bmB) (hB : bm.contains (.type B) = true) (hA : bm.contains (.type "AttributeError") = false) (hN : bm.contains (.type "NameError") = false) {rest : List Value}
    (hC : h.get? C = some (excClassObj nm q C N bs bm hdct sn sub ab col dd k0 k1 k2 k3 k5 newId))
    (hq : R (.ok (.ret (.ref (h.objs.size + 1)))) ⟨(h.push { cls := .type "tuple", data := .seq rest.toArray }).push (rawExc C h.objs.size), g, d, t, os⟩) (hrest : rest.length ≤ sizeLine := by size_fits) :
    codeAny (model prog w) A (.builtin newId ⟨.ref C :: rest, []⟩) R ⟨h, g, d, t, os⟩ := by
  have hends := F.ends
  have hcB : (Value.ref C :: bm).contains (.type B) = true := by rw [List.contains_cons, hB, Bool.or_true]
  have hcA : (Value.ref C :: bm).contains (.type "AttributeError") = false := by rw [List.contains_cons, hA]; rfl
  have hcN : (Value.ref C :: bm).contains (.type "NameError") = false := by rw [List.contains_cons, hN]; rfl
  refine codeAny_builtinAt F.entry ?_
  unfold Builtin.«BaseException.__new__»
  refine PySem.wpAt_bind ?_
  show PySem.wpAt _ _ _ (stack >>= _) _ _ _
  refine PySem.wpAt_bind (PySem.wpAt_stack fun p below => PySem.wpAt_of_wpAny ?_)
  wp_walk
  refine PySem.wpAt_of_wpAny ?_
  rw [F.owner]
  repeat (first | with_reducible refine wpAny_madeHere_exc F.canon hC ?_ | with_reducible refine wpAny_loadPart_at hC ?_ | (with_reducible refine wpAny_isSubtype_exc hC ?_; first | rw [hcB] | rw [hcA] | rw [hcN]) | wp_step)
  show R _ _
  rw [Heap.size_push]
  exact hq

variable {E : Value → Shared → Prop}
theorem x_type_call (F : ExcBaseFacts B newId initId bmB) (hB : bm.contains (.type B) = true) (hA : bm.contains (.type "AttributeError") = false) (hN : bm.contains (.type "NameError") = false)
    {rest : List Value} {fI : Addr} {oI : Obj} {Q : Fin → Shared → Prop}
    (hC : h.get? C = some (excClassObj nm q C N bs bm hdct sn sub ab col dd k0 k1 k2 k3 k5 newId)) (hi : ∀ h', (∀ b o, h.get? b = some o → h'.get? b = some o) → Looks (model prog w) h' (typeLookup (.ref C) "__init__") (some (.ref fI))) (hfI : h.get? fI = some oI) (hfc : oI.cls = .type "function")
    (hq : wpAny (model prog w) A (call (.ref fI) (.ref (h.objs.size + 1) :: rest)) (fun r s' => r = .none ∧ Q (.done (.ret (.ref (h.objs.size + 1)))) s') E
      ⟨(h.push { cls := .type "tuple", data := .seq rest.toArray }).push (rawExc C h.objs.size), g, d, t, os⟩) (hrest : rest.length ≤ sizeLine := by size_fits) :
    wpAny (model prog w) A (Builtin.«type.__call__» ⟨.ref C :: rest, []⟩) Q E ⟨h, g, d, t, os⟩ := by
  repeat (first | with_reducible refine wpAny_loadPart_at hC ?_ | with_reducible refine wpAny_madeBy_exc hC ?_ | wp_step)
  refine codeAny_call_builtin_code (Code.quiet_builtin _ F.quiet) (x_check_new F hB hC ?_)
  refine x_new F hB hA hN hC ?_ hrest
  show wpAny _ _ _ _ _ _
  have up : ∀ {b : Addr} {o : Obj}, h.get? b = some o → ((h.push { cls := .type "tuple", data := .seq rest.toArray }).push (rawExc C h.objs.size)).get? b = some o := fun e => Heap.get?_push_of_some _ (Heap.get?_push_of_some _ e)
  have hC₁ := up hC
  have hfI₁ := up hfI
  have hget : ((h.push { cls := .type "tuple", data := .seq rest.toArray }).push (rawExc C h.objs.size)).get? (h.objs.size + 1) = some (rawExc C h.objs.size) := by heap_get
  have hcC : (Value.ref C :: bm).contains (.ref C) = true := by simp
  unfold isInstance
  repeat (first | with_reducible refine wpAny_loadPart_at hget ?_ | (with_reducible refine wpAny_isSubtype_exc hC₁ ?_; rw [hcC]) | wp_step)
  show wpAny _ _ (typeLookup (.ref C) _) _ _ _
  refine (hi _ fun b o => up).here ?_
  refine wpAny_holding (wpAny_bind ?_)
  unfold bindSpecial
  refine wpAny_bind (wpAny_typeOf (T := "function") ⟨_, hfI₁, hfc⟩ ?_)
  rw [if_pos (by decide)]
  refine wpAny_pure (wpAny_bind (wpAny_mono hq (fun r s' hr => ?_) fun _ _ x => x))
  obtain ⟨rfl, hQ⟩ := hr
  wp_walk
  exact hQ

theorem x_call (F : ExcBaseFacts B newId initId bmB) (hB : bm.contains (.type B) = true) (hA : bm.contains (.type "AttributeError") = false) (hN : bm.contains (.type "NameError") = false)
    {rest : List Value} {fI : Addr} {oI : Obj} {Q : Value → Shared → Prop}
    (hC : h.get? C = some (excClassObj nm q C N bs bm hdct sn sub ab col dd k0 k1 k2 k3 k5 newId)) (hi : ∀ h', (∀ b o, h.get? b = some o → h'.get? b = some o) → Looks (model prog w) h' (typeLookup (.ref C) "__init__") (some (.ref fI))) (hfI : h.get? fI = some oI) (hfc : oI.cls = .type "function")
    (hq : wpAny (model prog w) (A.under (.builtin "type.__call__" ⟨.ref C :: rest, []⟩)) (call (.ref fI) (.ref (h.objs.size + 1) :: rest)) (fun r s' => r = .none ∧ Q (.ref (h.objs.size + 1)) s') E
      ⟨(h.push { cls := .type "tuple", data := .seq rest.toArray }).push (rawExc C h.objs.size), g, d, t, os⟩) (hrest : rest.length ≤ sizeLine := by size_fits) :
    wpAny (model prog w) A (call (.ref C) rest) Q E ⟨h, g, d, t, os⟩ := by
  have f1 := tc_lookup
  have f2 := tc_bind (.ref C)
  have hT : (⟨h, g, d, t, os⟩ : Shared).TypeIs (.ref C) "type" := ⟨_, hC, rfl⟩
  refine wpAny_call (codeAny_of_tree ?_)
  show wpAny _ _ (callAny (.ref C) _) _ _ _
  repeat (any_goals (first | assumption | with_reducible refine wpAny_loadPart_at hC ?_ | wp_step))
  refine ⟨rfl, ?_⟩
  exact codeAny_call_builtin_at (Code.quiet_builtin _ (by decide +kernel)) entry_typeCall (wpAny_check_type_call_sub hC (x_type_call (hrest := hrest) F hB hA hN hC hi hfI hfc hq))

theorem x_check_init {M : Model} (F : ExcBaseFacts B newId initId bmB) (hB : bm.contains (.type B) = true) {e : Addr} {oe : Obj} {rest : List Value} {Q : Unit → Shared → Prop}
    (hC : h.get? C = some (excClassObj nm q C N bs bm hdct sn sub ab col dd k0 k1 k2 k3 k5 newId)) (he : h.get? e = some oe) (hcls : oe.cls = .ref C) (hq : Q () ⟨h, g, d, t, os⟩) :
    wpAny M A (checkBuiltinCall initId ⟨.ref e :: rest, []⟩) Q E ⟨h, g, d, t, os⟩ := by
  have hcB : (Value.ref C :: bm).contains (.type B) = true := by rw [List.contains_cons, hB, Bool.or_true]
  have hshort := F.noStar
  simp only [checkBuiltinCall, F.initKind, F.initSplit, F.initRow]
  repeat (first | (with_reducible refine wpAny_loadPart_at he ?_; rw [hcls]) | with_reducible refine wpAny_loadPart_at hC ?_ | (with_reducible refine wpAny_isSubtype_exc hC ?_; rw [hcB]) | wp_step)
  refine wpAny_onRaise ?_
  rw [show ∀ (a b : String) (n : Nat), Bind.check ⟨.positional, "*", B, .self, [⟨"args", .varPos, false⟩]⟩ a b n (List.map (fun x => x.fst) ({ pos := Value.ref e :: rest } : Args).kw) = pure () from
    fun a b n => check_star_args _ _ _ _ _ _]
  exact wpAny_pure hq
theorem x_init_call (F : ExcBaseFacts B newId initId bmB) (hB : bm.contains (.type B) = true) {e t0 : Addr} {dc : Option Addr} {sl : Array (Option Value)} {rest : List Value} {Q : Value → Shared → Prop}
    (hC : h.get? C = some (excClassObj nm q C N bs bm hdct sn sub ab col dd k0 k1 k2 k3 k5 newId)) (he : h.get? e = some { cls := .ref C, dict := dc, data := .fields #[.ref t0, .none, .none, .none, .bool false, .none], slots := sl })
    (hq : Q .none ⟨(h.push { cls := .type "tuple", data := .seq rest.toArray }).update e (Obj.mapFields (·.setIfInBounds 0 (.ref h.objs.size))), g, d, t, os⟩) (hrest : rest.length ≤ sizeLine := by size_fits) :
    wpAny (model prog w) A (call (.builtin initId) (.ref e :: rest)) Q E ⟨h, g, d, t, os⟩ := by
  refine wpAny_call (codeAny_call_builtin F.init.plain F.initEntry (x_check_init F hB hC he rfl ?_))
  have he' := Heap.get?_push_of_some { cls := .type "tuple", data := .seq rest.toArray } he
  wp_walk
  exact hq
end
end Mine
end
section
open PySem PySem.W PyProof.Rows PySem.Calls PySem.Builtin PySem.Builtin.ObjectAttr
set_option maxRecDepth 100000
set_option maxHeartbeats 1000000
namespace Mine
noncomputable def overExc : List Value → Bool
  | .ref _ :: r => overExc r
  | l => l == [.type "Exception", .type "BaseException", .type "object"]
theorem refuse_exc (self : Value) : ∀ {l : List Value}, overExc l = true → refuseLoop self "__setattr__" l = pure ()
  | .ref c :: r, e => by rw [refuseLoop_ref]; exact refuse_exc self (by simpa [overExc] using e)
  | [], e => by simp [overExc] at e
  | .type n :: r, e => by
    have : (Value.type n :: r) = [.type "Exception", .type "BaseException", .type "object"] := by simpa [overExc] using e
    rw [this]; exact PySem.F.store_Exception.passes self
  | .none :: r, e => by simp [overExc] at e
  | .bool _ :: r, e => by simp [overExc] at e
  | .int _ _ :: r, e => by simp [overExc] at e
  | .str _ _ :: r, e => by simp [overExc] at e
  | .float _ _ :: r, e => by simp [overExc] at e
  | .builtin _ :: r, e => by simp [overExc] at e
  | .bytes _ _ :: r, e => by simp [overExc] at e
  | .ellipsis :: r, e => by simp [overExc] at e
  | .notImplemented :: r, e => by simp [overExc] at e
theorem exc_has : ∀ {l : List Value}, overExc l = true → l.contains (.type "object") = true ∧ l.isEmpty = false
  | .ref c :: r, e => ⟨by rw [List.contains_cons, (exc_has (l := r) (by simpa [overExc] using e)).1, Bool.or_true], rfl⟩
  | [], e => by simp [overExc] at e
  | .type n :: r, e => by
    have : (Value.type n :: r) = [.type "Exception", .type "BaseException", .type "object"] := by simpa [overExc] using e
    rw [this]; exact ⟨by simp, rfl⟩
  | .none :: r, e => by simp [overExc] at e
  | .bool _ :: r, e => by simp [overExc] at e
  | .int _ _ :: r, e => by simp [overExc] at e
  | .str _ _ :: r, e => by simp [overExc] at e
  | .float _ _ :: r, e => by simp [overExc] at e
  | .builtin _ :: r, e => by simp [overExc] at e
  | .bytes _ _ :: r, e => by simp [overExc] at e
  | .ellipsis :: r, e => by simp [overExc] at e
  | .notImplemented :: r, e => by simp [overExc] at e
noncomputable def excOver (K : Frag) (C : Addr) : Bool := (clsIn K C).any fun cd => overExc cd.mro && cd.hasDict
section
variable {prog : Program} {w : World} {A : Around} {E : Value → Shared → Prop} {s : Shared} {K : Frag} {x C dx L t0 : Addr} {h₀ : Heap} {m : Str → Option Value} {news news' pre post : List (Addr × Obj)} {ox od : Obj} {es es' : List DictEntry} {n n' : Nat} {name : PySem.Str} {v : Value}
  {sl : Array (Option Value)} {fs : Array Value}

theorem osa_exc {R : Result → Shared → Prop} {ox : Obj} {od : Option Obj} {tk : Tok} (X : K.In s.heap) (I : InstAt s.heap x ox C od) (hp : excOver K C = true) (ht : takerIn K C name = some none)
    (h : ∀ b, wpAny (model prog w) A.in1 (storeInOwnDict (.ref x) (.ref C) (.str name tk) name v b)
      (fun fin s' => match fin with | .done f => R (.ok f) s' | .again c' => c'.quiet = true ∧ codeAny (model prog w) A c' R s') (fun e s' => R (.error e) s') s) :
    codeAny (model prog w) A (.call (.builtin "object.__setattr__") ⟨[.ref x, .str name tk, v], []⟩) R s := by
  have SF := PySem.F.store_object
  refine byNo fun hno => ?_
  obtain ⟨cd, hc, ho'⟩ := any_some hp
  refine hno ?_
  clear hno
  have ho := (Bool.and_eq_true_iff.mp ho').1
  refine byNo fun hno => ?_
  obtain ⟨hob, ne⟩ := exc_has ho
  refine hno ?_
  clear hno
  have sub : Looks (model prog w) s.heap (isInstance (.ref x) (.type "object")) true := I.type.andThen (looks_mroIn X (by unfold mroIn; rw [hc, Option.bind_some, if_neg (by rw [ne]; decide), hob]))
  refine codeAny_call_builtin SF.slot.plain SF.entry (@check_slot (model prog w) _ _ s "object.__setattr__" "object" "__setattr__" (.ref x) [.str name tk, v] [] _ SF.kind SF.split sub (SF.args (.ref x) (.str name tk) v) ?_)
  refine byNo fun hno => ?_
  obtain ⟨attr, ha, hr⟩ := Option.bind_eq_some_iff.mp ht
  refine hno ?_
  clear hno
  have hm : Looks (model prog w) s.heap (mroOf (.ref C)) cd.mro := (looks_clsIn X hc).andThen .now
  have L3 : Looks (model prog w) s.heap (storeTaker? attr) none := by
    cases attr with
    | none => exact .now
    | some a =>
      refine byNo fun hno => ?_
      obtain ⟨b, hb, e⟩ := Option.map_eq_some_iff.mp hr
      refine hno ?_
      clear hno
      refine (looks_takesIn X hb).andThen ?_
      cases b with
      | true => simp at e
      | false => exact .now
  rw [osa_eq, refuse_eq]
  refine wpAny_bind (wpAny_bind (I.type.here (wpAny_bind (hm.here ?_))))
  rw [refuse_exc _ ho]
  refine wpAny_pure (wpAny_bind (I.type.here (wpAny_bind ((looks_findIn X ha).here (wpAny_bind (L3.here ?_))))))
  exact h _

noncomputable abbrev excOb (C : Addr) (dc : Option Addr) (fs : Array Value) (sl : Array (Option Value)) : Obj := { cls := .ref C, dict := dc, data := .fields fs, slots := sl }

theorem store_ns {Q : Fin → Shared → Prop} (F : Fr h₀ L s.heap m) (N : News h₀ L s.heap (pre ++ (dx, dictOf es n) :: post)) (h1 : ∀ p ∈ pre, p.1 ≠ dx) (h2 : ∀ p ∈ post, p.1 ≠ dx) (hl : (getL name es).isSome = true) {tk : Tok}
    (e : (putL name (PyData.keyHash w.params name) (.str name s.toks) v es, putN name es n) = (es', n')) (hz : es'.length ≤ 1000)
    (h : ∀ h', Fr h₀ L h' m → News h₀ L h' (pre ++ (dx, dictOf es' n') :: post) → Q (.done (.ret .none)) { s with heap := h', toks := s.toks + 1 }) :
    wpAny (model prog w) A (storeInDict dx (.str name tk) name v) Q E s := by
  refine byNo fun hno => ?_
  obtain ⟨e1, e2⟩ := Prod.mk.inj e
  obtain ⟨U1, U2⟩ := news_upd (f := Obj.putName name (PyData.keyHash w.params name) (.str name s.toks) v) (o' := dictOf es' n') F N h1 h2 (by rw [putName_dict, e1, e2]) rfl
  refine hno ?_
  clear hno
  have D := (N (dx, dictOf es n) (by simp)).1
  have D' := (U2 (dx, dictOf es' n') (by simp)).1
  unfold storeInDict newKeyGuard nsSet
  refine wpAny_bind (wpAny_pure (wpAny_bind (wpAny_bind (wpAny_bind (wpAny_askSetting (wpAny_pure (wpAny_bind (wpAny_mkText (wpAny_bind (wpAny_loadPart D ?_))))))))))
  have c : (!es.toArray.any (·.key.isStr name) && es.toArray.any (·.refKey)) = false := by
    rw [← Array.any_toList, ← Array.any_toList]
    unfold getL at hl
    dsimp only
    split at hl
    · rename_i en he
      rw [List.any_eq_true.mpr ⟨en, List.mem_of_find?_eq_some he, List.find?_some he⟩]; rfl
    · split at hl
      · cases hl
      · rename_i z; rw [Bool.not_eq_true] at z; rw [z, Bool.and_false]
  dsimp only
  rw [aRefKeyMayBeTheName_at, c]
  refine wpAny_updatePart D ?_
  refine wpAny_bind (wpAny_lookBehind D' (by exact pastItsLine_dict (by rw [List.size_toArray, sizeLine_eq]; omega)) ?_)
  exact wpAny_pure (h _ U1 U2)

theorem set_exc {Q : Unit → Shared → Prop} (F : Fr h₀ L s.heap m) (X₀ : K.In h₀) (N : News h₀ L s.heap (pre ++ (dx, dictOf es n) :: post)) (hx : s.heap.get? x = some (excOb C (some dx) fs sl))
    (hs : findIn K (.ref C) "__setattr__" = some (some (.builtin "object.__setattr__"))) (hp : excOver K C = true) (ht : takerIn K C name = some none) (hl : (getL name es).isSome = true)
    (h1 : ∀ p ∈ pre, p.1 ≠ dx) (h2 : ∀ p ∈ post, p.1 ≠ dx) (e : (putL name (PyData.keyHash w.params name) (.str name (s.toks + 1)) v es, putN name es n) = (es', n')) (hz : es'.length ≤ 1000)
    (h : ∀ h', Fr h₀ L h' m → News h₀ L h' (pre ++ (dx, dictOf es' n') :: post) → Q () { s with heap := h', toks := s.toks + 2 }) :
    wpAny (model prog w) A (setAttr (.ref x) name v) Q E s := by
  have I : InstAt s.heap x (excOb C (some dx) fs sl) C (some (dictOf es n)) := ⟨hx, rfl, rfl, (N _ (by simp : (dx, dictOf es n) ∈ _)).1⟩
  have X := X₀.keeps F.keep
  refine set_plain X I hs (osa_exc (s := { s with toks := s.toks + 1 }) X (by exact I) hp ht fun b => ?_)
  refine byNo fun hno => ?_
  obtain ⟨cd, hc, ho'⟩ := any_some hp
  refine hno ?_
  clear hno
  have hd' : cd.hasDict = true := (Bool.and_eq_true_iff.mp ho').2
  refine wpAny_bind (wpAny_pure (wpAny_bind (wpAny_bind (wpAny_loadPart (s := { s with toks := s.toks + 1 }) hx (wpAny_bind (Looks.here (s := { s with toks := s.toks + 1 }) (looks_clsIn X hc) ?_))))))
  rw [hd']
  refine wpAny_pure (a := some dx) ?_
  exact store_ns (s := { s with toks := s.toks + 1 }) F N h1 h2 hl e hz fun h' F' N' => h h' F' N'

theorem set_exc_new {Q : Unit → Shared → Prop} (F : Fr h₀ L s.heap m) (X₀ : K.In h₀) (N : News h₀ L s.heap (pre ++ (x, excOb C none fs sl) :: post))
    (hs : findIn K (.ref C) "__setattr__" = some (some (.builtin "object.__setattr__"))) (hp : excOver K C = true) (ht : takerIn K C name = some none)
    (h1 : ∀ p ∈ pre, p.1 ≠ x) (h2 : ∀ p ∈ post, p.1 ≠ x)
    (h : ∀ d h', (∀ p ∈ pre ++ (x, excOb C (some d) fs sl) :: post, p.1 ≠ d) → Fr h₀ L h' m → News h₀ L h' ((d, dictOf [⟨PyData.keyHash w.params name, .str name (s.toks + 1), v⟩] 1) :: (pre ++ (x, excOb C (some d) fs sl) :: post)) → Q () { s with heap := h', toks := s.toks + 2 }) :
    wpAny (model prog w) A (setAttr (.ref x) name v) Q E s := by
  have hx : s.heap.get? x = some (excOb C none fs sl) := (N (x, excOb C none fs sl) (by simp)).1
  have I : InstAt s.heap x (excOb C none fs sl) C none := ⟨hx, rfl, rfl, trivial⟩
  have X := X₀.keeps F.keep
  refine set_plain X I hs (osa_exc (s := { s with toks := s.toks + 1 }) X (by exact I) hp ht fun b => ?_)
  refine byNo fun hno => ?_
  obtain ⟨cd, hc, ho'⟩ := any_some hp
  refine hno ?_
  clear hno
  have hd' : cd.hasDict = true := (Bool.and_eq_true_iff.mp ho').2
  refine wpAny_bind (wpAny_pure (wpAny_bind (wpAny_bind (wpAny_loadPart (s := { s with toks := s.toks + 1 }) hx (wpAny_bind (Looks.here (s := { s with toks := s.toks + 1 }) (looks_clsIn X hc) ?_))))))
  rw [hd']
  have N₁ := N.push F { cls := .type "dict", data := .dict #[] }
  have F₁ := F.push { cls := .type "dict", data := .dict #[] }
  have ne : ∀ p ∈ pre ++ (x, excOb C none fs sl) :: post, p.1 ≠ s.heap.objs.size := fun p hp => Nat.ne_of_lt (Heap.lt_size (N p hp).1)
  have hx₁ := (N₁ (x, excOb C none fs sl) (by simp)).1
  obtain ⟨F₂, N₂⟩ := news_upd (f := fun o => { cls := o.cls, dict := some s.heap.objs.size, data := o.data, slots := o.slots }) (pre := (s.heap.objs.size, { cls := .type "dict", data := .dict #[] }) :: pre) (o' := excOb C (some s.heap.objs.size) fs sl) F₁ N₁
    (fun p hp => (List.mem_cons.mp hp).elim (fun e => by rw [e]; exact (ne (x, excOb C none fs sl) (by simp)).symm) (h1 p)) h2 rfl rfl
  refine wpAny_bind (wpAny_alloc ?_)
  refine wpAny_bind (wpAny_update (s := { s with heap := s.heap.push _, toks := s.toks + 1 }) hx₁ ?_)
  refine wpAny_pure ?_
  refine store_ns (s := { s with heap := _, toks := s.toks + 1 }) (pre := []) (es := []) (n := 0) F₂ N₂ (fun _ hp => nomatch hp) ?_ rfl rfl (by show 1 ≤ 1000; omega) fun h' F' N' => h _ h' ?_ F' N'
  all_goals
    intro p hp
    rcases List.mem_append.mp hp with hp | hp
    · exact ne p (by simp [hp])
    · rcases List.mem_cons.mp hp with rfl | hp
      · exact ne (x, excOb C none fs sl) (by simp)
      · exact ne p (by simp [hp])
end
end Mine
end
section
open PySem PySem.W PyProof.Rows PySem.Calls
set_option maxRecDepth 100000
set_option maxHeartbeats 2000000
namespace Mine

noncomputable abbrev bagKvs (scr : Addr) (t : Int) (tk : Tok) : List (PySem.Str × Value) := [(Str.ofString "script", .ref scr), (Str.ofString "turn", .int t tk)]
noncomputable def rollV (ns : List Int) (t : Int) (sides : Int) : Int :=
  if t < ns.length then (ns.getD t.toNat 0) % sides else ((t + 1) + (t + 1) / sides) % sides

theorem news_dictOf {prog : Program} {w : World} {h₀ h : Heap} {L d : Addr} {o : Obj} {news : List (Addr × Obj)} {kvs : List (PySem.Str × Value)} (N : News h₀ L h news) (hm : (d, o) ∈ news) (hd : o.IsDictOf (strKind prog w) kvs) : h.DictOf (strKind prog w) d kvs :=
  Heap.dictOf_iff.mpr ⟨o, (N _ hm).1, hd⟩
section
variable {prog : Program} {w : World} {A : Around} {E : Value → Shared → Prop} {s : Shared} {h₀ : Heap} {L d : Addr} {news : List (Addr × Obj)} {kvs : List (PySem.Str × Value)} {x : PySem.Str} {t : Tok} {v : Value} {o : Obj} {m : Str → Option Value} {g : Obj → List (Addr × Obj)}
theorem getItem_dict {Q : Value → Shared → Prop} (H : s.heap.DictOf (strKind prog w) d kvs) (hv : valueAt kvs x = some v) (h : ∀ tk, Q v { s with toks := tk }) :
    wpAny (model prog w) A (getItem (.ref d) (.str x t)) Q E s := wpAny_getItem_of (strKind_is prog w x t) H.mapOf hv (h _)
theorem sub_dict {value slice : PySem.Expr} {Q : Value → Shared → Prop} (H : s.heap.DictOf (strKind prog w) d kvs) (hv : valueAt kvs x = some v) (h : ∀ tk, Q v { s with toks := tk })
    (hs : subscripted slice false (.ref d) (.str x t) = operate [.ref d, .str x t] (getItem (.ref d) (.str x t)) := by with_unfolding_all rfl) :
    wpAny (model prog w) A (subscriptTail value slice (.ref d) (.str x t)) Q E s := tail_any H.mapOf.typeIs slot_dict_getitem.lookup (getItem_dict H hv h) hs
theorem setItem_dict {kvs' : List (PySem.Str × Value)} {Q : Unit → Shared → Prop} (F : Fr h₀ L s.heap m) (N : News h₀ L s.heap news) (U : UpdF d o news g) (hd : o.IsDictOf (strKind prog w) kvs) (hst : stored kvs x v = kvs')
    (h : ∀ h' o' tk, Fr h₀ L h' m → News h₀ L h' (g o') → o'.IsDictOf (strKind prog w) kvs' → Q () { s with heap := h', toks := tk }) (hsz : kvs.length ≤ sizeLine) :
    wpAny (model prog w) A (setItem (.ref d) (.str x t) v) Q E s := by
  refine byNo fun hno => ?_
  obtain ⟨pre, post, rfl, hg, a, b⟩ := U.split
  refine hno ?_
  clear hno
  have D := N (d, o) (by simp)
  have H : s.heap.DictOf (strKind prog w) d kvs := Heap.dictOf_iff.mpr ⟨o, D.1, hd⟩
  refine wpAny_setItem_pairs (hsz := hsz) (strKind_is prog w x t) H fun h' hm hs => ?_
  refine byNo fun hno => ?_
  obtain ⟨o', ho', hd'⟩ := Heap.dictOf_iff.mp hm
  refine hno ?_
  clear hno
  exact h h' o' _ (F.change hs D.2.1 D.2.2) (hg o' ▸ N.setIn a b hs ho') (hst ▸ hd')
end
theorem bag_script {scr : Addr} {t : Int} {tk : Tok} : valueAt (bagKvs scr t tk) (Str.ofString "script") = some (.ref scr) := rfl
theorem bag_turn {scr : Addr} {t : Int} {tk : Tok} : valueAt (bagKvs scr t tk) (Str.ofString "turn") = some (.int t tk) := rfl
theorem bag_put {scr : Addr} {t t' : Int} {tk tk' : Tok} : stored (bagKvs scr t tk) (Str.ofString "turn") (.int t' tk') = bagKvs scr t' tk' := rfl
end Mine
end
section
open PySem PySem.W PyProof.Rows PySem.Calls PySem.Spec PySem.SeqAt PyProof.Rows.LCg
namespace Mine
set_option maxHeartbeats 2000000
theorem gsub_list {h g : Heap} {as : List Addr} {l : Addr} {its : Array Value} (G : GSub h g as) (H : h.IsList l its) (hl : l ∉ as) : g.IsList l its := let ⟨o, e, r⟩ := H; ⟨o, G _ _ e hl, r⟩

local macro_rules | `(tactic| k_lt $h:ident) => `(tactic| replace $h := allLt_of $h)
local macro_rules | `(tactic| k_ne) => `(tactic| (refine neN ?_; (try dsimp only); first | (with_reducible assumption) | exact Ne.symm (by with_reducible assumption) | exact ne_o (by with_reducible assumption) (by k_search 11) | exact ne_o' (by with_reducible assumption) (by k_search 11) | exact ne_l (by with_reducible assumption) (by k_search 11) | exact ne_l' (by with_reducible assumption) (by k_search 11) | omega))
local macro_rules | `(tactic| k_all) => `(tactic| first | (with_reducible assumption) | exact all_o (by with_reducible assumption) (fun x => x) | exact all_l (by with_reducible assumption) (fun x => x) | exact List.forall_mem_nil _ | (refine' List.forall_mem_cons.mpr ⟨?a, ?b⟩; (case a => k_ne); (case b => k_all)))
local macro_rules | `(tactic| k_search 2) => `(tactic| first | exact room_le (by with_reducible assumption) (by decide) | ((try dsimp only [topA, Around.deeper, Around.in1, Around.under, Around.mark]); first | exact room_le (by with_reducible assumption) (by decide) | exact room_le2 (by with_reducible assumption) (by decide) | exact room_le3 (by with_reducible assumption) (by decide)) | ((try dsimp only [topA, Around.deeper, Around.in1, Around.under, Around.mark] at *); omega))
local macro_rules | `(tactic| k_room) => `(tactic| first | k_search 2 | (simp only [depth_under_make, depth_under_kw, depth_in1, depth_deeper, depth_caller]; k_search 2) | (simp only [depth_under_make, depth_under_kw, depth_in1, depth_deeper, depth_caller] at *; (try dsimp only [topA] at *); omega))
local macro_rules | `(tactic| k_search 11) => `(tactic| first | exact HasA.hd | (refine HasA.tl ?_; k_search 11))
section

noncomputable def RollPost (w : World) (bag scr : Addr) (ns : List Int) (t sides : Int) (r : Value) (upd new : List (Addr × Obj)) : Prop :=
  new = [] ∧ (∃ tk', r = .int (rollV ns t sides) tk') ∧ ∃ ob' tk', upd = [(bag, ob')] ∧ ob'.IsDictOf (strKind PySem.Challenge.rw_pb0010_01.row.prog w) (bagKvs scr (t + 1) tk')
theorem roll_post1 {w : World} {bag scr : Addr} {ns : List Int} {t sides : Int} {o : Obj} {tk tk' : Tok} (h0 : 0 ≤ t) (hs : 0 < sides) (a : t < ns.length) (hd : o.IsDictOf (strKind PySem.Challenge.rw_pb0010_01.row.prog w) (bagKvs scr (t + 1) tk)) :
    RollPost w bag scr ns t sides (.int ((ns.getD (t + 1 - 1).toNat 0).fmod sides) tk') [(bag, o)] [] := by
  refine ⟨rfl, ⟨tk', ?_⟩, o, tk, rfl, hd⟩
  unfold rollV
  rw [if_pos a, Int.fmod_eq_emod_of_nonneg _ (by omega), show t + 1 - 1 = t by omega]
theorem roll_post2 {w : World} {bag scr : Addr} {ns : List Int} {t sides : Int} {o : Obj} {tk tk' : Tok} (h0 : 0 ≤ t) (hs : 0 < sides) (a : ¬ t < ns.length) (hd : o.IsDictOf (strKind PySem.Challenge.rw_pb0010_01.row.prog w) (bagKvs scr (t + 1) tk)) :
    RollPost w bag scr ns t sides (.int ((t + 1 + (t + 1).fdiv sides).fmod sides) tk') [(bag, o)] [] := by
  refine ⟨rfl, ⟨tk', ?_⟩, o, tk, rfl, hd⟩
  unfold rollV
  rw [if_neg a, Int.fmod_eq_emod_of_nonneg _ (by omega), Int.fdiv_eq_ediv_of_nonneg _ (by omega)]
theorem roll_spec (w : World) (mean mg mb) (bag scr : Addr) (ob : Obj) (t sides : Int) (tk tk2 : Tok) (vs : List Value) (ns : List Int)
    (hb : ob.IsDictOf (strKind PySem.Challenge.rw_pb0010_01.row.prog w) (bagKvs scr t tk)) (hi : IntsAre vs ns) (h0 : 0 ≤ t) (ht : t < 100000) (hlen : ns.length ≤ 60) (hs : 0 < sides) (hs2 : sides < 100000) (hne : scr ≠ bag) :
    Spec w mean mg mb 211 [.ref bag, .int sides tk2] 10 100 [(bag, ob)] (fun h => h.IsList scr vs.toArray)
      (RollPost w bag scr ns t sides) := by
  refine spec_enter [(Str.ofString "bag", .ref bag), (Str.ofString "sides", .int sides tk2)] (by k_is) (by k_is) (fun _ => BindsTo.of_eq rfl) (locs rfl) rfl rfl rfl (by decide) ?_
  intro dp un gd env outer base g L' h₁ s tk₀ hd hu hP G F N B X T
  have hP' : g.IsList scr vs.toArray := gsub_list G hP (fun z => hne (List.mem_singleton.mp z))
  clear hP
  k_with_none
  k_with "subscriptTail Name Constant ref str" => (refine sub_dict (news_dictOf (by assumption) (List.Mem.head _) (by assumption)) (by first | exact bag_script | exact bag_turn) ?_; intro tk')
  k_with "getItem ref str" => (refine getItem_dict (news_dictOf (by assumption) (List.Mem.head _) (by assumption)) (by first | exact bag_script | exact bag_turn) ?_; intro tk')
  k_with "binaryOp FloorDiv int int" => (refine floordiv_int (by omega) ?_)
  k_with "setItem ref str" => (refine setItem_dict (by assumption) (by assumption) (UpdF.head (by intro p hp; cases hp)) (by assumption) (by exact bag_put) ?_ (by decide); intro h' o' tk' F' N' hb')
  (try k_unmd); (try dsimp only); (try k_fold)
  focus
    focus (iterate 47 ((try dsimp only); walk1))
    focus (k_unfold; (try dsimp only))
    rotate_left
    focus (iterate 28 ((try dsimp only); walk1))
    focus (k_unfold; (try dsimp only))
    rotate_left
  all_goals refine Done.one (by assumption) (by assumption) ?_
  · exact roll_post1 h0 hs (by assumption) (by assumption)
  · exact roll_post2 h0 hs (by assumption) (by assumption)
end
set_option maxHeartbeats 2000000
noncomputable abbrev rawFs (t : Addr) : Array Value := #[.ref t, .none, .none, .none, .bool false, .none]
noncomputable abbrev bm51 : List Value := [.ref 31, .type "Exception", .type "BaseException", .type "object"]
noncomputable def ExcIn (K : Frag) (C N : Addr) : Prop := ∃ nm q bs hdct sn sub ab col dd k0 k1 k2 k3 k5, K.lookup C = some (excClassObj nm q C N bs bm51 hdct sn sub ab col dd k0 k1 k2 k3 k5 "Exception.__new__")
theorem l51 (w : World) : (hd.heap_1 w.params).lookup 51 = some (excClassObj (Str.ofString "CheckFault") (Str.ofString "CheckFault") 51 50 [.ref 31] bm51 true [] [] false none none (some (.ref 35)) none (some (.str (Str.ofString "CheckFault") 218)) (some (.str (Str.ofString "CheckFault") 226)) (some (.bool true)) "Exception.__new__") := by k_is
theorem l70 (w : World) : (hd.heap_1 w.params).lookup 70 = some (excClassObj (Str.ofString "AdaRaise") (Str.ofString "AdaRaise") 70 69 [.ref 31] bm51 true [] [] false none none (some (.ref 54)) none (some (.str (Str.ofString "AdaRaise") 244)) (some (.str (Str.ofString "AdaRaise") 252)) (some (.bool true)) "Exception.__new__") := by k_is
theorem exc51 (w : World) : ExcIn (hd.heap_1 w.params) 51 50 := ⟨_, _, _, _, _, _, _, _, _, _, _, _, _, _, l51 w⟩
theorem exc70 (w : World) : ExcIn (hd.heap_1 w.params) 70 69 := ⟨_, _, _, _, _, _, _, _, _, _, _, _, _, _, l70 w⟩
theorem exc_init_N {prog : Program} {w : World} {A : Around} {E : Value → Shared → Prop} {s : Shared} {K : Frag} {e C cN L t0 : Addr} {h₀ : Heap} {m : Str → Option Value} {pre post : List (Addr × Obj)} {v : Value} {dc : Option Addr} {sl : Array (Option Value)} {Q : Value → Shared → Prop}
    (F : Fr h₀ L s.heap m) (X₀ : K.In h₀) (hC : ExcIn K C cN) (N : News h₀ L s.heap (pre ++ (e, excOb C dc (rawFs t0) sl) :: post)) (h1 : ∀ p ∈ pre, p.1 ≠ e) (h2 : ∀ p ∈ post, p.1 ≠ e)
    (h : ∀ h' t1, Fr h₀ L h' m → News h₀ L h' (pre ++ (e, excOb C dc (rawFs t1) sl) :: post) → Q .none { s with heap := h' }) :
    wpAny (model prog w) A (call (.builtin "Exception.__init__") [.ref e, v]) Q E s := by
  refine byNo fun hno => ?_
  obtain ⟨nm, q, bs, hdct, sn, sub, ab, col, dd, k0, k1, k2, k3, k5, hl⟩ := hC
  refine hno ?_
  clear hno
  have hx : s.heap.get? e = some (excOb C dc (rawFs t0) sl) := (N (e, excOb C dc (rawFs t0) sl) (by simp)).1
  have N₁ := N.push F { cls := .type "tuple", data := .seq #[v] }
  have F₁ := F.push { cls := .type "tuple", data := .seq #[v] }
  obtain ⟨F₂, N₂⟩ := news_upd (f := Obj.mapFields (·.setIfInBounds 0 (.ref s.heap.objs.size))) (pre := (s.heap.objs.size, { cls := .type "tuple", data := .seq #[v] }) :: pre) (o' := excOb C dc (rawFs s.heap.objs.size) sl) F₁ N₁
    (fun p hp => (List.mem_cons.mp hp).elim (fun z => by rw [z]; exact (Nat.ne_of_lt (Heap.lt_size hx)).symm) (h1 p)) h2 rfl rfl
  refine byNo fun hno => ?_
  obtain ⟨hh, g, d, t, os⟩ := s
  refine hno ?_
  clear hno
  refine x_init_call PySem.F.excBase_Exception (bm := bm51) (by decide) ((X₀.keeps F.keep) _ _ hl) hx ?_ (by show 1 ≤ sizeLine; rw [sizeLine_eq]; omega)
  exact h _ _ F₂ (fun p hp => N₂ p (by simpa using Or.inr hp))
noncomputable def AdaInitPost (w : World) (e C : Addr) (v r : Value) (upd new : List (Addr × Obj)) : Prop :=
  r = .none ∧ ∃ d t1 tk, upd = [(e, excOb C (some d) (rawFs t1) #[])] ∧ new = [(d, dictOf [⟨PyData.keyHash w.params (Str.ofString "text"), .str (Str.ofString "text") tk, v⟩] 1)]
theorem noMem {P : Addr × Obj → Prop} : ∀ p ∈ ([] : List (Addr × Obj)), P p := fun _ hp => nomatch hp
theorem Done.of {s : Shared} {g h' : Heap} {L' : Addr} {m' : PySem.Str → Option Value} {old : List (Addr × Obj)} {Post : Value → List (Addr × Obj) → List (Addr × Obj) → Prop} {v : Value} {tk : Nat} (new upd : List (Addr × Obj)) (F : Fr g L' h' m') (N : News g L' h' (new ++ upd))
    (ha : adrs upd = adrs old) (hne : ∀ p ∈ new, ∀ q ∈ upd, p.1 ≠ q.1) (hp : Post v upd new) : Done s g L' old Post v { s with heap := h', toks := tk } :=
  ⟨h', tk, m', upd, new, rfl, F, fun p h => N p (List.mem_append_right _ h), fun p h => N p (List.mem_append_left _ h), ha, hne, hp⟩
theorem Done.of11 {s : Shared} {g h' : Heap} {L' d e : Addr} {od o o' : Obj} {m' : PySem.Str → Option Value} {Post : Value → List (Addr × Obj) → List (Addr × Obj) → Prop} {v : Value} {tk : Nat} (F : Fr g L' h' m') (N : News g L' h' [(d, od), (e, o')])
    (hne : ∀ p ∈ [(e, o')], p.1 ≠ d) (hp : Post v [(e, o')] [(d, od)]) : Done s g L' [(e, o)] Post v { s with heap := h', toks := tk } :=
  Done.of [(d, od)] [(e, o')] F N rfl (fun p hp q hq => by rw [List.mem_singleton.mp hp]; exact (hne q hq).symm) hp
section

theorem meta_Exception : typeOf (.type "Exception") = pure (.type "type") := by kernel_rfl
local macro_rules | `(tactic| walk_at "getMethod type:Exception") => `(tactic| (k_here; refine' method_type ?F ?X ?m (by decide +kernel) ?e ?h ?_; (case F => k_asm); (case X => k_asm); (case m => exact meta_Exception); (case e => k_dflt k_is); (case h => k_handed)))
theorem excCls (w : World) (C : Addr) (hC : C = 51 ∨ C = 70) : (∃ N, ExcIn (hd.heap_1 w.params) C N) ∧ findIn (hd.heap_1 w.params) (.ref C) "__setattr__" = some (some (.builtin "object.__setattr__")) ∧ excOver (hd.heap_1 w.params) C = true := by
  rcases hC with rfl | rfl
  · exact ⟨⟨_, exc51 w⟩, by k_is, by unfold excOver clsIn; rw [l51]; rfl⟩
  · exact ⟨⟨_, exc70 w⟩, by k_is, by unfold excOver clsIn; rw [l70]; rfl⟩
theorem ada_init (w : World) (mean mg mb) (e C t0 : Addr) (v : Value) (hC : C = 51 ∨ C = 70) :
    Spec w mean mg mb 28 [.ref e, v] 10 100 [(e, excOb C none (rawFs t0) #[])] (fun _ => True) (AdaInitPost w e C v) := by
  refine spec_enter [(Str.ofString "self", .ref e), (Str.ofString "text", v)] (by k_is) (by k_is) (fun _ => BindsTo.of_eq rfl) (locs rfl) rfl rfl rfl (by decide) ?_
  intro dp un gd env outer base g L' h₁ s tk₀ hd hu hP G F N B X T
  clear hP
  refine byNo fun hno => ?_
  obtain ⟨⟨cN, x1⟩, x2, x3⟩ := excCls w C hC
  refine hno ?_
  clear hno
  have x4 : takerIn (Mine.hd.heap_1 w.params) C (Str.ofString "text") = some none := by rcases hC with rfl | rfl <;> k_is
  k_with_none
  (try k_unmd); (try dsimp only); (try k_fold)
  focus
    iterate 11 ((try dsimp only); walk1)
    ((try dsimp only); refine exc_init_N (pre := []) (by assumption) (by assumption) (by assumption) (by assumption) noMem noMem ?_; (intro _ _ _ N'; dsimp only [List.nil_append] at N'; revert N'; intro _))
    iterate 5 ((try dsimp only); walk1)
    ((try dsimp only); refine set_exc_new (pre := []) (by assumption) (by assumption) (by assumption) (by assumption) (by assumption) (by assumption) noMem noMem ?_; (intro _ _ hne y3 N'; dsimp only [List.nil_append] at N' hne; revert hne y3 N'; intro _ _ _))
    iterate 2 ((try dsimp only); walk1)
    (k_unfold; (try dsimp only))
  exact Done.of11 (by assumption) (by assumption) (by assumption) ⟨rfl, _, _, _, rfl, rfl⟩
end
set_option maxHeartbeats 2000000
theorem apart1 {e d : Addr} {o o' : Obj} (h : ∀ q ∈ [(e, o)], q.1 ≠ d) : ∀ p ∈ [(e, o')], p.1 ≠ d := fun p hp => by
  rw [List.mem_singleton.mp hp]; exact h (e, o) (.head _)
noncomputable abbrev ent (w : World) (x : String) (tk : Tok) (v : Value) : DictEntry := ⟨PyData.keyHash w.params (Str.ofString x), .str (Str.ofString x) tk, v⟩
section
variable {w : World} {mean : ExcName → Option Value} {mg mb : PySem.Str → Option Value} {dp un : Nat} {gd : Option (List Code)} {env : Env} {outer : List Env} {A₀ : Around} {base h₀ : Heap} {L e C t0 : Addr} {m : PySem.Str → Option Value} {s : Shared} {Q : Value → Shared → Prop} {E : Value → Shared → Prop} {news : List (Addr × Obj)} {v : Value} {gg : Obj → List (Addr × Obj)}
theorem ada_use (hC : C = 51 ∨ C = 70) (B : Below A₀ base outer h₀) (F : Fr h₀ L s.heap m) (X : (hd.heap_1 w.params).In h₀) (N : News h₀ L s.heap news) (T : TP mean mg mb h₀) (U : UpdF e (excOb C none (rawFs t0) #[]) news gg)
    (hf : env.frame = some L) (hk : env.scope.kind = .function) (hd : dp + 10 < recursionLimit) (hu : un + 100 < cLine)
    (ret : ∀ d t1 tk h' tk', Fr h₀ L h' m → News h₀ L h' ((d, dictOf [ent w "text" tk v] 1) :: gg (excOb C (some d) (rawFs t1) #[])) → (∀ q ∈ news, q.1 ≠ d) → Q .none { s with heap := h', toks := tk' }) :
    wpAny (model PySem.Challenge.rw_pb0010_01.row.prog w) (topA dp un gd env outer) (call (.ref 28) [.ref e, v]) Q E s := by
  refine Spec.use1 (ada_init _ _ _ _ _ _ _ _ hC) B F X N T U hf hk hd hu trivial ?_
  rintro r o' new h' tk' F' N' hne - ⟨rfl, d, t1, tk, h2, rfl⟩
  cases h2
  exact ret d t1 tk h' tk' F' N' fun q hq => hne q hq _ (.head _)
end
section
noncomputable def FaultInitPost (w : World) (e : Addr) (line text r : Value) (upd new : List (Addr × Obj)) : Prop :=
  r = .none ∧ ∃ d t1 tk tk', upd = [(e, excOb 51 (some d) (rawFs t1) #[])] ∧ new = [(d, dictOf [ent w "text" tk text, ent w "line" tk' line] 2)]
theorem fault_init (w : World) (mean mg mb) (e t0 : Addr) (line text : Value) :
    Spec w mean mg mb 48 [.ref e, line, text] 20 1000 [(e, excOb 51 none (rawFs t0) #[])] (fun _ => True) (FaultInitPost w e line text) := by
  refine spec_enter [(Str.ofString "self", .ref e), (Str.ofString "line", line), (Str.ofString "text", text)] (by k_is) (by k_is) (fun _ => BindsTo.of_eq rfl) (locs rfl) rfl rfl rfl (by decide) ?_
  intro dp un gd env outer base g L' h₁ s tk₀ hd hu hP G F N B X T
  clear hP
  have hC : 51 = 51 ∨ 51 = 70 := Or.inl rfl
  refine byNo fun hno => ?_
  obtain ⟨-, x2, x3⟩ := excCls w 51 (Or.inl rfl)
  refine hno ?_
  clear hno
  k_with_none
  (try k_unmd); (try dsimp only); (try k_fold)
  focus
    iterate 13 ((try dsimp only); walk1)
    ((try dsimp only); refine ada_use (by assumption) (by assumption) (by assumption) (by assumption) (by assumption) (by assumption) (UpdF.head noMem) rfl rfl (by k_search 2) (by k_search 2) ?_; (intro _ _ _ _ _ _ N' y7; (try dsimp only at N'); revert N' y7; intro _ _))
    iterate 4 ((try dsimp only); walk1)
    ((try dsimp only); refine' set_exc (pre := []) (by assumption) (by assumption) (by assumption) (News.get (by assumption) (List.Mem.tail _ (List.Mem.head _))) (by assumption) (by assumption) ?k14 ?k24 noMem (apart1 (by assumption)) ?k34 ?k44 ?_; (case k14 => k_is); (case k24 => rfl); (case k34 => k_put); (case k44 => exact Nat.le_of_ble_eq_true rfl); (intro _ _ N'; (try dsimp only [List.nil_append] at N'); revert N'; intro _))
    iterate 2 ((try dsimp only); walk1)
    (k_unfold; (try dsimp only))
  exact Done.of11 (by assumption) (by assumption) (apart1 (by assumption)) ⟨rfl, _, _, _, _, rfl, rfl⟩
noncomputable def RaiseInitPost (w : World) (e : Addr) (name line text r : Value) (upd new : List (Addr × Obj)) : Prop :=
  r = .none ∧ ∃ d t1 k1 k2 k3 k4, upd = [(e, excOb 70 (some d) (rawFs t1) #[])] ∧ new = [(d, dictOf [ent w "text" k1 text, ent w "name" k2 name, ent w "word" k3 name, ent w "line" k4 line] 4)]
theorem raise_init (w : World) (mean mg mb) (e t0 : Addr) (name line text : Value) :
    Spec w mean mg mb 67 [.ref e, name, line, text] 20 1000 [(e, excOb 70 none (rawFs t0) #[])] (fun _ => True) (RaiseInitPost w e name line text) := by
  refine spec_enter [(Str.ofString "self", .ref e), (Str.ofString "name", name), (Str.ofString "line", line), (Str.ofString "text", text)] (by k_is) (by k_is) (fun _ => BindsTo.of_eq rfl) (locs rfl) rfl rfl rfl (by decide) ?_
  intro dp un gd env outer base g L' h₁ s tk₀ hd hu hP G F N B X T
  clear hP
  have hC : 70 = 51 ∨ 70 = 70 := Or.inr rfl
  refine byNo fun hno => ?_
  obtain ⟨-, x2, x3⟩ := excCls w 70 (Or.inr rfl)
  refine hno ?_
  clear hno
  k_with_none
  (try k_unmd); (try dsimp only); (try k_fold)
  focus
    iterate 13 ((try dsimp only); walk1)
    ((try dsimp only); refine ada_use (by assumption) (by assumption) (by assumption) (by assumption) (by assumption) (by assumption) (UpdF.head noMem) rfl rfl (by k_search 2) (by k_search 2) ?_; (intro _ _ _ _ _ _ N' y7; (try dsimp only at N'); revert N' y7; intro _ _))
    iterate 4 ((try dsimp only); walk1)
    ((try dsimp only); refine' set_exc (pre := []) (by assumption) (by assumption) (by assumption) (News.get (by assumption) (List.Mem.tail _ (List.Mem.head _))) (by assumption) (by assumption) ?k11 ?k21 noMem (apart1 (by assumption)) ?k31 ?k41 ?_; (case k11 => k_is); (case k21 => rfl); (case k31 => k_put); (case k41 => exact Nat.le_of_ble_eq_true rfl); (intro _ _ N'; (try dsimp only [List.nil_append] at N'); revert N'; intro _))
    iterate 5 ((try dsimp only); walk1)
    ((try dsimp only); refine' set_exc (pre := []) (by assumption) (by assumption) (by assumption) (News.get (by assumption) (List.Mem.tail _ (List.Mem.head _))) (by assumption) (by assumption) ?k12 ?k22 noMem (apart1 (by assumption)) ?k32 ?k42 ?_; (case k12 => k_is); (case k22 => rfl); (case k32 => k_put); (case k42 => exact Nat.le_of_ble_eq_true rfl); (intro _ _ N'; (try dsimp only [List.nil_append] at N'); revert N'; intro _))
    iterate 5 ((try dsimp only); walk1)
    ((try dsimp only); refine' set_exc (pre := []) (by assumption) (by assumption) (by assumption) (News.get (by assumption) (List.Mem.tail _ (List.Mem.head _))) (by assumption) (by assumption) ?k13 ?k23 noMem (apart1 (by assumption)) ?k33 ?k43 ?_; (case k13 => k_is); (case k23 => rfl); (case k33 => k_put); (case k43 => exact Nat.le_of_ble_eq_true rfl); (intro _ _ N'; (try dsimp only [List.nil_append] at N'); revert N'; intro _))
    iterate 2 ((try dsimp only); walk1)
    (k_unfold; (try dsimp only))
  exact Done.of11 (by assumption) (by assumption) (apart1 (by assumption)) ⟨rfl, _, _, _, _, _, _, rfl, rfl⟩
end
section
open PySem PySem.W PyProof.Rows PySem.Calls
set_option maxRecDepth 100000
set_option maxHeartbeats 2000000
theorem init51 (w : World) : findIn (hd.heap_1 w.params) (.ref 51) "__init__" = some (some (.ref 48)) := by k_is
theorem init70 (w : World) : findIn (hd.heap_1 w.params) (.ref 70) "__init__" = some (some (.ref 67)) := by k_is
theorem fn48 (w : World) : typeIn (hd.heap_1 w.params) (.ref 48) = some (.type "function") := by k_is
theorem fn67 (w : World) : typeIn (hd.heap_1 w.params) (.ref 67) = some (.type "function") := by k_is
theorem fnAt {K : Frag} {h : Heap} {f : Addr} {T : String} (X : K.In h) (e : typeIn K (.ref f) = some (.type T)) : ∃ o, h.get? f = some o ∧ o.cls = .type T := by
  have e' : (K.lookup f).map (·.cls) = some (.type T) := e
  cases q : K.lookup f with
  | none => rw [q] at e'; cases e'
  | some o => rw [q] at e'; exact ⟨o, X _ _ q, by simpa using e'⟩
section
variable {w : World} {mean : ExcName → Option Value} {mg mb : PySem.Str → Option Value} {dp un : Nat} {gd : Option (List Code)} {env : Env} {outer : List Env} {A₀ : Around} {base h₀ : Heap} {L : Addr} {m : PySem.Str → Option Value} {s : Shared} {Q : Value → Shared → Prop} {E : Value → Shared → Prop} {news : List (Addr × Obj)}
theorem fault_call {line text : Value} (B : Below A₀ base outer h₀) (F : Fr h₀ L s.heap m) (X : (hd.heap_1 w.params).In h₀) (N : News h₀ L s.heap news) (T : TP mean mg mb h₀)
    (hf : env.frame = some L) (hk : env.scope.kind = .function) (hd : dp + 40 < recursionLimit) (hu : un + 2000 < cLine)
    (ret : ∀ e d t1 tk tk' h' tk₂, Fr h₀ L h' m → News h₀ L h' ((e, excOb 51 (some d) (rawFs t1) #[]) :: (d, dictOf [ent w "text" tk text, ent w "line" tk' line] 2) :: news) → e ≠ d → (∀ q ∈ news, q.1 ≠ e ∧ q.1 ≠ d) → Q (.ref e) { s with heap := h', toks := tk₂ }) :
    wpAny (model PySem.Challenge.rw_pb0010_01.row.prog w) (topA dp un gd env outer) (call (.ref 51) [line, text]) Q E s := by
  obtain ⟨hh, g, dr, t, os⟩ := s
  have X₁ := X.keeps F.keep
  obtain ⟨o48, hfI, hfc⟩ := fnAt X₁ (fn48 w)
  refine x_call PySem.F.excBase_Exception (by decide) (by decide) (by decide) (X₁ _ _ (l51 w)) (fun h' k => looks_findIn (X₁.keeps k) (init51 w)) hfI hfc ?_ (by show 2 ≤ sizeLine; rw [sizeLine_eq]; omega)
  have F₁ := (F.push { cls := .type "tuple", data := .seq #[line, text] }).push (rawExc 51 hh.objs.size)
  have N₁ := (N.push F { cls := .type "tuple", data := .seq #[line, text] }).push (F.push { cls := .type "tuple", data := .seq #[line, text] }) (rawExc 51 hh.objs.size)
  rw [Heap.size_push] at N₁
  have lt : ∀ q ∈ news, q.1 < hh.objs.size := fun q hq => Heap.lt_size (N q hq).1
  refine Spec.use1 (d := hh.objs.size + 1) (o := excOb 51 none (rawFs hh.objs.size) #[]) (fault_init _ _ _ _ _ _ _ _) B F₁ X N₁ T (UpdF.head ?_) hf hk ?_ ?_ trivial ?_
  · intro p hp
    rcases List.mem_cons.mp hp with rfl | hp
    · exact Nat.ne_of_lt (Nat.lt_succ_self _)
    · exact Nat.ne_of_lt (Nat.lt_succ_of_lt (lt p hp))
  · show dp + 1 + 20 < _; omega
  · have hcu : (Code.builtin "type.__call__" { pos := [Value.ref 51, line, text] }).cUnits ≤ 4 := by exact Nat.le_of_ble_eq_true rfl
    show un + (Code.builtin "type.__call__" { pos := [Value.ref 51, line, text] }).cUnits + 1000 < cLine
    omega
  · rintro r o' new h' tk₂ F' N' hne - ⟨rfl, d, t1, tk, tk', h2, rfl⟩
    cases h2
    refine ⟨rfl, ret _ d t1 tk tk' h' tk₂ F' ?_ ?_ ?_⟩
    · intro p hp
      refine N' p ?_
      rcases List.mem_cons.mp hp with rfl | hp
      · simp
      · rcases List.mem_cons.mp hp with rfl | hp
        · simp
        · simp [hp]
    · exact hne _ (.head _) _ (.head _)
    · intro q hq
      exact ⟨Nat.ne_of_lt (Nat.lt_succ_of_lt (lt q hq)), hne q (by simp [hq]) _ (.head _)⟩
theorem raise_call {name line text : Value} (B : Below A₀ base outer h₀) (F : Fr h₀ L s.heap m) (X : (hd.heap_1 w.params).In h₀) (N : News h₀ L s.heap news) (T : TP mean mg mb h₀)
    (hf : env.frame = some L) (hk : env.scope.kind = .function) (hd : dp + 40 < recursionLimit) (hu : un + 2000 < cLine)
    (ret : ∀ e d t1 k1 k2 k3 k4 h' tk₂, Fr h₀ L h' m → News h₀ L h' ((e, excOb 70 (some d) (rawFs t1) #[]) :: (d, dictOf [ent w "text" k1 text, ent w "name" k2 name, ent w "word" k3 name, ent w "line" k4 line] 4) :: news) → e ≠ d → (∀ q ∈ news, q.1 ≠ e ∧ q.1 ≠ d) → Q (.ref e) { s with heap := h', toks := tk₂ }) :
    wpAny (model PySem.Challenge.rw_pb0010_01.row.prog w) (topA dp un gd env outer) (call (.ref 70) [name, line, text]) Q E s := by
  obtain ⟨hh, g, dr, t, os⟩ := s
  have X₁ := X.keeps F.keep
  obtain ⟨o48, hfI, hfc⟩ := fnAt X₁ (fn67 w)
  refine x_call PySem.F.excBase_Exception (by decide) (by decide) (by decide) (X₁ _ _ (l70 w)) (fun h' k => looks_findIn (X₁.keeps k) (init70 w)) hfI hfc ?_ (by show 3 ≤ sizeLine; rw [sizeLine_eq]; omega)
  have F₁ := (F.push { cls := .type "tuple", data := .seq #[name, line, text] }).push (rawExc 70 hh.objs.size)
  have N₁ := (N.push F { cls := .type "tuple", data := .seq #[name, line, text] }).push (F.push { cls := .type "tuple", data := .seq #[name, line, text] }) (rawExc 70 hh.objs.size)
  rw [Heap.size_push] at N₁
  have lt : ∀ q ∈ news, q.1 < hh.objs.size := fun q hq => Heap.lt_size (N q hq).1
  refine Spec.use1 (d := hh.objs.size + 1) (o := excOb 70 none (rawFs hh.objs.size) #[]) (raise_init _ _ _ _ _ _ _ _ _) B F₁ X N₁ T (UpdF.head ?_) hf hk ?_ ?_ trivial ?_
  · intro p hp
    rcases List.mem_cons.mp hp with rfl | hp
    · exact Nat.ne_of_lt (Nat.lt_succ_self _)
    · exact Nat.ne_of_lt (Nat.lt_succ_of_lt (lt p hp))
  · show dp + 1 + 20 < _; omega
  · have hcu : (Code.builtin "type.__call__" { pos := [Value.ref 70, name, line, text] }).cUnits ≤ 4 := by exact Nat.le_of_ble_eq_true rfl
    show un + (Code.builtin "type.__call__" { pos := [Value.ref 70, name, line, text] }).cUnits + 1000 < cLine
    omega
  · rintro r o' new h' tk₂ F' N' hne - ⟨rfl, d, t1, k1, k2, k3, k4, h2, rfl⟩
    cases h2
    refine ⟨rfl, ret _ d t1 k1 k2 k3 k4 h' tk₂ F' ?_ ?_ ?_⟩
    · intro p hp
      refine N' p ?_
      rcases List.mem_cons.mp hp with rfl | hp
      · simp
      · rcases List.mem_cons.mp hp with rfl | hp
        · simp
        · simp [hp]
    · exact hne _ (.head _) _ (.head _)
    · intro q hq
      exact ⟨Nat.ne_of_lt (Nat.lt_succ_of_lt (lt q hq)), hne q (by simp [hq]) _ (.head _)⟩
end

section
variable {M : Model} {A : Around} {E : Value → Shared → Prop} {env : Env} {s : Shared}
variable {nm q : PySem.Str} {C N : Addr} {bs bm : List Value} {hdct : Bool} {sn : List PySem.Str} {sub : List Value} {ab : Bool} {col : Option Bool} {dd : Option Addr} {k0 k1 k2 k3 k5 : Option Value} {newId : String}
theorem x_raiseStmt {x : Sem Value} {Q : Flow → Shared → Prop} (hbase : bm.contains (.type "BaseException") = true) (hh : A.handled = none)
    (h : wpAny M A x (fun v s₁ => ∃ e t dc sl, v = .ref e ∧ s₁.heap.get? C = some (excClassObj nm q C N bs bm hdct sn sub ab col dd k0 k1 k2 k3 k5 newId) ∧ s₁.heap.get? e = some (excOb C dc (rawFs t) sl) ∧ E (.ref e) s₁) E s) :
    wpAny M A (raiseStmt env (some x) none) Q E s := by
  have hcB : (Value.ref C :: bm).contains (.type "BaseException") = true := by rw [List.contains_cons, hbase, Bool.or_true]
  unfold raiseStmt
  refine wpAny_bind (wpAny_mono h (fun v s₁ h₁ => ?_) fun _ _ x => x)
  refine byNo fun hno => ?_
  obtain ⟨e, t, dc, sl, rfl, hC, he, hE⟩ := h₁
  obtain ⟨hp, g, d, tk, os⟩ := s₁
  refine hno ?_
  clear hno
  repeat (first | with_reducible refine wpAny_loadPart_at he ?_ | with_reducible refine wpAny_loadPart_at hC ?_ | (with_reducible refine wpAny_isSubtype_exc hC ?_; rw [hcB]) | wp_step)
  exact wpAny_raiseNew_none hh hE
theorem x_Raise {ce : PySem.Expr} {pos : Pos} {Q : Flow → Shared → Prop} (hbase : bm.contains (.type "BaseException") = true) (hh : A.handled = none)
    (h : wpAny M A (eval ce env) (fun v s₁ => ∃ e t dc sl, v = .ref e ∧ s₁.heap.get? C = some (excClassObj nm q C N bs bm hdct sn sub ab col dd k0 k1 k2 k3 k5 newId) ∧ s₁.heap.get? e = some (excOb C dc (rawFs t) sl) ∧ E (.ref e) s₁) E s) :
    wpAny M A (exec (.Raise (some ce) none pos) env) Q E s := by
  rw [arm_exec_Raise]
  refine wpAny_bind (wpAny_standAt (x_raiseStmt (C := C) (nm := nm) (q := q) (N := N) (bs := bs) (bm := bm) (hdct := hdct) (sn := sn) (sub := sub) (ab := ab) (col := col) (dd := dd) (k0 := k0) (k1 := k1) (k2 := k2) (k3 := k3) (k5 := k5) (newId := newId) hbase hh ?_))
  exact wpAny_bind (wpAny_mono h (fun v s₃ h₃ => wpAny_bind (wpAny_standAt (wpAny_pure h₃))) fun _ _ x => x)
end
end
section
open PySem PySem.W PyProof.Rows PySem.Calls
set_option maxRecDepth 100000
set_option maxHeartbeats 2000000
noncomputable def freshen (g h' : Heap) : Heap := { objs := Array.ofFn (n := g.objs.size) fun i => if (g.get? i).isSome then (match h'.objs[i.val]? with | some o => o | none => { cls := .none, data := .freed }) else { cls := .none, data := .freed }, life := h'.life }
theorem freshen_get (g h' : Heap) (b : Addr) : (freshen g h').get? b = if (g.get? b).isSome then h'.get? b else none := by
  by_cases hb : b < g.objs.size
  · have e : (freshen g h').objs[b]? = some (if (g.get? b).isSome then (match h'.objs[b]? with | some o => o | none => { cls := .none, data := .freed }) else { cls := .none, data := .freed }) := by
      unfold freshen
      rw [Array.getElem?_ofFn, dif_pos hb]
    unfold Heap.get?
    rw [e]
    split
    · rename_i h1
      injection h1 with h1
      by_cases hg : (g.get? b).isSome = true
      · have hg' := hg
        unfold Heap.get? at hg'
        rw [if_pos hg] at h1
        rw [if_pos hg']
        cases q : h'.objs[b]? with
        | none => rfl
        | some o => rw [q] at h1; simp only at h1; rw [h1]
      · have hg' := hg
        unfold Heap.get? at hg'
        rw [if_neg hg']
    · rename_i h1 h2
      by_cases hg : (g.get? b).isSome = true
      · have hg' := hg
        unfold Heap.get? at hg'
        rw [if_pos hg] at h2 ⊢
        rw [if_pos hg']
        cases q : h'.objs[b]? with
        | none => rw [q] at h2; exact absurd rfl (h2 _ _ _)
        | some o => 
          simp only
          rw [q] at h2
          split
          · rename_i h3; injection h3 with h3; exact absurd (by simp only; rw [h3]) (h2 _ _ _)
          · rfl
      · rw [if_neg hg] at h2
        exact absurd rfl (h2 _ _ _)
  · have n1 : (freshen g h').get? b = none := Heap.get?_none_of_le (by unfold freshen; simp only [Array.size_ofFn]; exact Nat.le_of_not_lt hb)
    have n2 : g.get? b = none := Heap.get?_none_of_le (Nat.le_of_not_lt hb)
    rw [n1, n2]; rfl
theorem freshen_size (g h' : Heap) : (freshen g h').objs.size = g.objs.size := by unfold freshen; simp only [Array.size_ofFn]

noncomputable def Flown (base : Heap) (l : List Env) (H h' : Heap) (e C d : Addr) (od : Obj) (fl : Option Value) : Prop :=
  ∃ B, base.StaysIn B ∧ (∀ b o, H.get? b = some o → (∀ v ∈ l, v.frame ≠ some b) → B.get? b = some o) ∧ B.get? d = some od ∧ H.get? d = none ∧ ExX B l e (.ref C) (some d) fl h' ∧ H.UpToSlots h'

theorem Flown.sub {base H H' h' : Heap} {l : List Env} {e C d : Addr} {od : Obj} {fl : Option Value} (x : Flown base l H h' e C d od fl) (k : ∀ b o, H'.get? b = some o → H.get? b = some o) : Flown base l H' h' e C d od fl := by
  refine byNo fun hno => ?_
  obtain ⟨B, b1, b2, b3, b4, b5, b6⟩ := x
  refine hno ?_
  clear hno
  refine ⟨B, b1, fun b o e n => b2 b o (k b o e) n, b3, ?_, b5, fun b o e n => b6 b o (k b o e) n⟩
  cases q : H'.get? d with
  | none => rfl
  | some o => rw [k d o q] at b4; cases b4

section
variable {M : Model} {A A₀ : Around} {E : Value → Shared → Prop} {s : Shared} {base H g h h₀ : Heap} {env : Env} {outer l : List Env} {L e C d : Addr} {od : Obj} {fl : Option Value} {m : PySem.Str → Option Value} {news : List (Addr × Obj)} {fs : Array Value} {sl : Array (Option Value)}

theorem Flown.start (K : Below A₀ base outer g) (F : Fr g L h m) (N : News g L h ((e, excOb C (some d) fs sl) :: (d, od) :: news)) (hf : env.frame = some L) (hk : env.scope.kind = .function) (h1 : fs[1]? = some .none) (hne : e ≠ d) :
    Flown base (env :: outer) g h e C d od none := by
  have K' := pushX K F hf hk
  have Ne := N _ (.head _)
  have Nd := N _ (.tail _ (.head _))
  have inF : ∀ {b}, b ∈ (env :: outer).filterMap (·.frame) → base.get? b = none ∧ ∃ o, h.get? b = some o ∧ ∀ vs, o.data ≠ .fields vs := fun hm => K'.frames.mem hm
  have memF : ∀ v ∈ env :: outer, ∀ b, v.frame = some b → b ∈ (env :: outer).filterMap (·.frame) := fun v hv b hb => List.mem_filterMap.mpr ⟨v, hv, hb⟩
  have eoff : e ∉ (env :: outer).filterMap (·.frame) := fun hm => by
    obtain ⟨o, ho, hn⟩ := (inF hm).2
    rw [Ne.1] at ho; cases ho; exact hn _ rfl
  have doff : d ∉ (env :: outer).filterMap (·.frame) := fun hm => by
    obtain ⟨v, hv, hb⟩ := List.mem_filterMap.mp hm
    rcases List.mem_cons.mp hv with rfl | hv
    · exact Nd.2.1 (Option.some.inj (hb.symm.trans hf))
    · obtain ⟨o, ho, _⟩ := (K.frames.mem (List.mem_filterMap.mpr ⟨v, hv, hb⟩)).2
      rw [Nd.2.2] at ho; cases ho
  refine ⟨hideAll h (e :: (env :: outer).filterMap (·.frame)), fun b o q => hideAll_get _ (K'.stays b o q) fun hm => ?_, fun b o q n => hideAll_get _ (F.keep b o q) fun hm => ?_, hideAll_get _ Nd.1 fun hm => ?_, Nd.2.2, ?_, Heap.UpToSlots.of_keeps F.keep⟩
  · rcases List.mem_cons.mp hm with rfl | hm
    · rw [noneOfStays K.stays Ne.2.2] at q; cases q
    · rw [(inF hm).1] at q; cases q
  · rcases List.mem_cons.mp hm with rfl | hm
    · rw [Ne.2.2] at q; cases q
    · obtain ⟨v, hv, hb⟩ := List.mem_filterMap.mp hm
      exact n v hv hb
  · rcases List.mem_cons.mp hm with q | hm
    · exact hne q.symm
    · exact doff hm
  · refine ⟨fun b o q => of_hideAll _ q, hideAll_none _ (.head _), ?_, _, fs, Ne.1, rfl, rfl, rfl, (Array.getElem?_eq_some_iff.mp h1).1, h1⟩
    exact funFrames_hide K'.frames fun v hv b hb => .tail _ (memF v hv b hb)

theorem Flown.leave {Q : Unit → Shared → Prop} (hfr : A.frames = some (env :: outer)) (hf : env.frame = some L) (x : Flown base (env :: outer) H s.heap e C d od fl) (hfl : fl = none ∨ fl = some .none ∨ fl = some (rawInt L)) (hL : H.get? L = none)
    (h : ∀ h', Flown base outer H h' e C d od (some .none) → Q () { s with heap := h' }) : wpAny M A (leaving env (.ref e)) Q E s := by
  refine byNo fun hno => ?_
  obtain ⟨B, b1, b2, b3, b4, b5, b6⟩ := x
  refine hno ?_
  clear hno
  refine leavingX hfr hf b5 hfl fun h' X' u => h h' ⟨B, b1, fun b o q n => b2 b o q fun v hv z => ?_, b3, b4, X', b6.trans u⟩
  rcases List.mem_cons.mp hv with rfl | hv
  · rw [hf] at z; cases z; rw [hL] at q; cases q
  · exact n v hv z

theorem Flown.pass (hfr : A.frames = some (env :: outer)) (hf : env.frame = some L) (x : Flown base (env :: outer) H s.heap e C d od fl) (hfl : fl = none ∨ fl = some .none ∨ fl = some (rawInt L))
    (h : ∀ h', Flown base (env :: outer) H h' e C d od (some (rawInt L)) → E (.ref e) { s with heap := h' }) : notedBy M A env (cameBackBy M A env E) (.ref e) s := by
  refine byNo fun hno => ?_
  obtain ⟨B, b1, b2, b3, b4, b5, b6⟩ := x
  refine hno ?_
  clear hno
  exact passX (Q := fun _ _ => True) hfr hf b5 hfl fun h' X' u => h h' ⟨B, b1, b2, b3, b4, X', b6.trans u⟩

theorem Flown.note {Q : Unit → Shared → Prop} (hfr : A.frames = some (env :: outer)) (hf : env.frame = some L) (x : Flown base (env :: outer) H s.heap e C d od (some .none))
    (h : ∀ h', Flown base (env :: outer) H h' e C d od (some (rawInt L)) → Q () { s with heap := h' }) : wpAny M A (noteFrame (.ref e) env) Q E s := by
  refine byNo fun hno => ?_
  obtain ⟨B, b1, b2, b3, b4, b5, b6⟩ := x
  refine hno ?_
  clear hno
  exact note_on hfr hf b5 fun h' X' u => h h' ⟨B, b1, b2, b3, b4, X', b6.trans u⟩
theorem Flown.flight {f : Value} {fr : Option Addr} {Q : Unit → Shared → Prop} (x : Flown base l H s.heap e C d od (some f))
    (h : ∀ h', Flown base l H h' e C d od (some (fr.elim .none fun f => rawInt f)) → Q () { s with heap := h' }) : wpAny M A (setFlight (.ref e) fr) Q E s := by
  refine byNo fun hno => ?_
  obtain ⟨B, b1, b2, b3, b4, b5, b6⟩ := x
  refine hno ?_
  clear hno
  exact flightX b5 fun h' X' u => h h' ⟨B, b1, b2, b3, b4, X', b6.trans u⟩

structure Ground (base h₀ : Heap) (A₀ : Around) (outer : List Env) (g : Heap) : Prop where
  stays : base.StaysIn g
  below : Below A₀ base outer g
  keep : ∀ b o, h₀.get? b = some o → (∀ v ∈ outer, v.frame ≠ some b) → g.get? b = some o
  slots : h₀.UpToSlots g
theorem Flown.landed (x : Flown base (env :: outer) H h e C d od fl) (F : Fr h₀ L H m) (N : News h₀ L H news) (B₀ : Below A₀ base outer h₀) (hf : env.frame = some L) :
    ∃ oe vs, oe.cls = .ref C ∧ oe.dict = some d ∧ oe.data = .fields vs ∧ h.get? e = some oe ∧ Fr (freshen h₀ h) L h m ∧ News (freshen h₀ h) L h ((e, oe) :: (d, od) :: news) ∧ Ground base h₀ A₀ outer (freshen h₀ h) := by
  refine byNo fun hno => ?_
  obtain ⟨B, b1, b2, b3, b4, ⟨x1, x2, x3, oe, vs, h1, hc, hd, h4, h5, h6⟩, b6⟩ := x
  refine hno ?_
  clear hno
  have get := freshen_get h₀ h
  have kH : ∀ b o, H.get? b = some o → (∀ v ∈ env :: outer, v.frame ≠ some b) → h.get? b = some o := fun b o q n => x1 b o (b2 b o q n)
  have none' : ∀ b, h₀.get? b = none → (freshen h₀ h).get? b = none := fun b q => by rw [get, q]; rfl
  have offL : ∀ v ∈ outer, v.frame ≠ some L := fun v hv z => by
    refine byNo fun hno => ?_
    obtain ⟨o, ho, _⟩ := (B₀.frames.mem (List.mem_filterMap.mpr ⟨v, hv, z⟩)).2
    refine hno ?_
    clear hno
    exact absurd (Heap.lt_size ho) (Nat.not_lt.mpr F.above)
  have new : ∀ b o, H.get? b = some o → b ≠ L → h₀.get? b = none → h.get? b = some o := fun b o q n n0 => kH b o q fun v hv z => by
    rcases List.mem_cons.mp hv with rfl | hv
    · rw [hf] at z; exact n (Option.some.inj z).symm
    · obtain ⟨o', ho, _⟩ := (B₀.frames.mem (List.mem_filterMap.mpr ⟨v, hv, z⟩)).2
      rw [n0] at ho; cases ho
  have eH : H.get? e = none := by
    cases q : H.get? e with
    | none => rfl
    | some o =>
      by_cases hm : ∃ v ∈ env :: outer, v.frame = some e
      · obtain ⟨v, hv, z⟩ := hm
        refine byNo fun hno => ?_
        obtain ⟨o', ho', hn⟩ := (x3.mem (List.mem_filterMap.mpr ⟨v, hv, z⟩)).2
        refine hno ?_
        clear hno
        rw [h1] at ho'; cases ho'; exact absurd h4 (hn _)
      · have := b2 e o q fun v hv z => hm ⟨v, hv, z⟩
        rw [x2] at this; cases this
  have base0 : base.StaysIn (freshen h₀ h) := fun b o q => by
    rw [get, B₀.stays b o q]; exact x1 b o (b1 b o q)
  have notL : ∀ b, H.get? b = none → b ≠ L := fun b q z => by
    refine byNo fun hno => ?_
    obtain ⟨oL, _, _, hL, _⟩ := F.ns
    refine hno ?_
    clear hno
    rw [z, hL] at q; cases q
  have no0 : ∀ b, H.get? b = none → h₀.get? b = none := fun b q => by
    cases z : h₀.get? b with
    | none => rfl
    | some o => rw [F.keep b o z] at q; cases q
  refine ⟨oe, vs, hc, hd, h4, h1, ⟨b6.ns F.ns, fun b o q => ?_, by rw [freshen_size]; exact F.above⟩, ?_, base0, ⟨B₀.stack, base0, ?_⟩, fun b o q n => ?_, fun b o q n => ?_⟩
  · rw [get] at q
    split at q
    · exact q
    · cases q
  · intro p hp
    rcases List.mem_cons.mp hp with rfl | hp
    · exact ⟨h1, notL _ eH, none' _ (no0 _ eH)⟩
    rcases List.mem_cons.mp hp with rfl | hp
    · exact ⟨x1 _ _ b3, notL _ b4, none' _ (no0 _ b4)⟩
    · exact ⟨new _ _ (N p hp).1 (N p hp).2.1 (N p hp).2.2, (N p hp).2.1, none' _ (N p hp).2.2⟩
  · have fr : ∀ l', (∀ v ∈ l', v ∈ outer) → h.FunFrames B l' → (freshen h₀ h).FunFrames base l' := by
      intro l'
      induction l' with
      | nil => exact fun _ _ => trivial
      | cons v r ih =>
        intro hin hq1
        refine byNo fun hno => ?_
        obtain ⟨hk, ⟨L₁, o, hf₁, hn, ho, hdn⟩, hr⟩ := hq1
        refine hno ?_
        clear hno
        refine ⟨hk, ⟨L₁, o, hf₁, noneOfStays b1 hn, ?_, hdn⟩, ih (fun v hv => hin v (.tail _ hv)) hr⟩
        refine byNo fun hno => ?_
        obtain ⟨o', ho', _⟩ := (B₀.frames.mem (List.mem_filterMap.mpr ⟨v, hin v (.head _), hf₁⟩)).2
        refine hno ?_
        clear hno
        rw [get, ho']; exact ho
    exact fr outer (fun _ hv => hv) x3.2.2
  · rw [get, q]
    refine kH b o (F.keep b o q) fun v hv z => ?_
    rcases List.mem_cons.mp hv with rfl | hv
    · rw [hf] at z
      exact absurd (Heap.lt_size q) (Nat.not_lt.mpr ((Option.some.inj z) ▸ F.above))
    · exact n v hv z
  · obtain ⟨sl', q'⟩ := b6 b o (F.keep b o q) n
    exact ⟨sl', by rw [get, q]; exact q'⟩
end
end
section
open PySem PySem.W PyProof.Rows PySem.Calls
set_option maxRecDepth 100000
set_option maxHeartbeats 2000000
section
variable {prog : Program} {w : World} {A A₀ : Around} {E : Value → Shared → Prop} {s s' : Shared} {base H g h h₀ : Heap} {outer l : List Env} {L a e C d cN : Addr} {od : Obj} {fl : Option Value} {m : PySem.Str → Option Value} {news : List (Addr × Obj)} {fs : Array Value} {sl : Array (Option Value)}
  {cn : PySem.Str} {cs : Scope} {ccd : Value} {cl : List (PySem.Str × Addr)} {n x : PySem.Str} {b₀ : Stmt} {suite : List Stmt} {pos np : Pos} {rest : List ExceptHandler} {Q : Flow → Shared → Prop} {K : Frag} {p : Program} {loose : List PySem.Str} {mean : ExcName → Option Value} {mg mb : PySem.Str → Option Value}

theorem caughtX (Fl : Flown base (envX cn cs L a ccd cl :: outer) H s'.heap e C d od (some .none)) (F : Fr h₀ L H m) (N : News h₀ L H news) (B : Below A₀ base outer h₀) (Xb : K.In base) (Tb : TopRead p loose mg mb base)
    (hA : A.frames = some (envX cn cs L a ccd cl :: outer)) (hC : ExcIn K C cN) (hx : nsIn K mainGlobals x = some (some (.ref C)))
    (k : ∀ g h' oe vs tk, Fr g L h' (fun y => if y = n then some (.ref e) else m y) → News g L h' ((e, oe) :: (d, od) :: news) → Ground base h₀ A₀ outer g → oe.cls = .ref C → oe.dict = some d → oe.data = .fields vs →
      wpAny (model prog w) (A.mark (some (.ref e))) (execs (b₀ :: suite) (envX cn cs L a ccd cl))
        (fun f s₄ => wpAny (model prog w) A (do bindName (envX cn cs L a ccd cl) n .none; unbindBehindTheSuite (envX cn cs L a ccd cl) n pos) (fun _ s₅ => Q f s₅) E s₄)
        (AsSuiteRaised (model prog w) (A.mark (some (.ref e))) (envX cn cs L a ccd cl) n pos (notedBy (model prog w) (A.mark (some (.ref e))) (envX cn cs L a ccd cl) (cameBackBy (model prog w) A (envX cn cs L a ccd cl) E)))
        { s' with heap := h', toks := tk })
    (hk : cs.kind = .function := by rfl) (hlo : (envX cn cs L a ccd cl).kindOf n = some .local := by rfl) (hxk : (envX cn cs L a ccd cl).kindOf x = some .globalImplicit := by rfl) (hd : (x == ("__debug__" : Str)) = false := by decide) :
    wpAny (model prog w) A (noteFrame (.ref e) (envX cn cs L a ccd cl))
      (fun _ s₂ => wpAny (model prog w) A (setFlight (.ref e) none) (fun _ s₃ =>
        wpAny (model prog w) A (handleBy (.ref e) (envX cn cs L a ccd cl) (.ExceptHandler (some (.Name x np)) (some n) (b₀ :: suite) pos :: rest)) Q E s₃) E s₂) E s' := by
  refine Fl.note hA rfl fun h₄ Fl₄ => ?_
  refine Flown.flight (s := { s' with heap := h₄ }) (fr := none) Fl₄ fun h₅ Fl₅ => ?_
  refine byNo fun hno => ?_
  obtain ⟨oe, vs, hc, hdc, hda, he, F₅, N₅, G₅⟩ := Fl₅.landed F N B rfl
  refine hno ?_
  clear hno
  refine wpAny_handleBy_cons (codeAny_handlers_test ?_) (by intro q; cases q)
  refine nameX_K (s := { s' with heap := h₅ }) F₅ (Xb.keeps G₅.stays) (Tb.keeps G₅.stays) hx ?_ hk hxk hd
  refine byNo fun hno => ?_
  obtain ⟨nm, q, bs, hdct, sn, sub, ab, col, dd, k0, k1, k2, k3, k5, hl⟩ := hC
  refine hno ?_
  clear hno
  refine wpAny_excMatches_sub_self (bm := bm51) ((Xb.keeps fun b o q => F₅.keep b o (G₅.stays b o q)) _ _ hl) he hc (by decide) ?_
  refine codeAny_handlers_suite_as ?_
  refine Flown.flight (s := { s' with heap := h₅ }) (fr := none) Fl₅ fun h₆ Fl₆ => ?_
  refine byNo fun hno => ?_
  obtain ⟨oe', vs', hc', hdc', hda', he', F₆, N₆, G₆⟩ := Fl₆.landed F N B rfl
  refine hno ?_
  clear hno
  refine storeX_L (s := { s' with heap := h₆ }) F₆ N₆ (fun h₇ F₇ N₇ => ?_) hk hlo
  exact k _ h₇ oe' vs' _ F₇ N₇ G₆ hc' hdc' hda'
end
end
section
open PySem PySem.W PyProof.Rows PySem.Calls PySem.Spec
set_option maxRecDepth 100000
set_option maxHeartbeats 2000000
section
variable {prog : Program} {w : World} {A₀ A : Around} {s : Shared} {base h₀ : Heap} {outer : List Env} {L : Addr} {m : PySem.Str → Option Value} {env : Env} {news : List (Addr × Obj)}
theorem code_def2 {K : Frag} {p : Program} {loose : List PySem.Str} {mean : ExcName → Option Value} {mg mb : PySem.Str → Option Value} {R : Result → Shared → Prop} {name qual : PySem.Str} {params : Arguments} {body : List Stmt} {scope : Scope} {dV kV doc pm cdv ct oc : Value} {an od : Option Addr} {osl : Array (Option Value)} {f : Addr} {args : Args} {binds : List (PySem.Str × Value)}
    (B : Below A₀ base outer h₀) (F : Fr h₀ L s.heap m) (X₀ : K.In h₀) (N : News h₀ L s.heap news) (T : Top p loose mean mg mb h₀) (hA : A.frames = some (env :: outer)) (hf : env.frame = some L) (hke : env.scope.kind = .function)
    (ho : K.lookup f = some ⟨oc, od, .func (fnOf name qual params body scope dV kV doc pm an cdv ct), osl⟩) (hcd : codeIn K cdv qual = true) (hroom : A.depth < recursionLimit)
    (hbind : BindsTo s (fnOf name qual params body scope dV kV doc pm an cdv ct) args binds) (hloc : ∀ y ∈ binds, scope.names.lookup y.1 = some .local)
    (h : ∀ g L' h₁, Fr h₀ L g m → Fr g L' h₁ (fun y => binds.reverse.lookup y) → News g L' h₁ news → Below A base (env :: outer) g → K.In g → Top p loose mean mg mb g → GSub s.heap g (news.map (·.1)) → (∀ b o, g.get? b = some o → s.heap.get? b = some o) →
      wpAny (model prog w) (A.deeper (envOf qual scope L' f cdv)) (execs body (envOf qual scope L' f cdv))
        (fun fl s' => R (.ok (.ret (match fl with | .ret v => v | _ => .none))) s')
        (fun e s' => wpAny (model prog w) (A.deeper (envOf qual scope L' f cdv)) (leaving (envOf qual scope L' f cdv) e) (fun _ s'' => R (.error e) s'') (fun e' s'' => R (.error e') s'') s')
        { s with heap := h₁, toks := s.toks + binds.length })
    (hco : scope.isCoroutine = false) (hgen : scope.isGenerator = false) (hk : scope.kind = .function)
    (hcell : ∀ x ∈ scope.names, x.2 ≠ .cell) : codeAny (model prog w) A (.call (.ref f) args) R s := by
  refine byNo fun hno => ?_
  obtain ⟨FG, BG, st, -⟩ := groundX (R := R) B F N hA hf hke
  refine hno ?_
  clear hno
  refine codeAny_call_def (fd := fnX name qual params body scope [] dV kV doc pm an cdv ct) (body := body) (binds := binds) hroom ((X₀.keeps F.keep) _ _ ho) rfl (T.nolimit.keeps F.keep) (codeRec_of (X₀.keeps F.keep) hcd) rfl hbind hcell hloc (fun h₁ hns hk₁ => ?_) hco hgen hk
  exact h _ s.heap.objs.size h₁ FG ⟨hns, fun b o e => hk₁ b o (of_hideAll _ e), Nat.le_of_eq (hideAll_size _ _)⟩
    (fun p hp => ⟨hk₁ _ _ (N p hp).1, Nat.ne_of_lt (Heap.lt_size (N p hp).1), hideAll_none _ (List.mem_map_of_mem hp)⟩) BG (X₀.keeps st) (T.keeps st) (fun b o e n => hideAll_get _ e n) (fun b o e => of_hideAll _ e)

theorem code_def2C {K : Frag} {p : Program} {loose : List PySem.Str} {mean : ExcName → Option Value} {mg mb : PySem.Str → Option Value} {R : Result → Shared → Prop} {name qual : PySem.Str} {params : Arguments} {body : List Stmt} {scope : Scope} {dV kV doc pm cdv ct oc : Value} {an od : Option Addr} {osl : Array (Option Value)} {f : Addr} {args : Args} {binds : List (PySem.Str × Value)}
    (B : Below A₀ base outer h₀) (F : Fr h₀ L s.heap m) (X₀ : K.In h₀) (N : News h₀ L s.heap news) (T : Top p loose mean mg mb h₀) (hA : A.frames = some (env :: outer)) (hf : env.frame = some L) (hke : env.scope.kind = .function)
    (ho : K.lookup f = some ⟨oc, od, .func (fnX name qual params body scope [] dV kV doc pm an cdv ct), osl⟩) (hcd : codeIn K cdv qual = true) (hroom : A.depth < recursionLimit)
    (hbind : BindsTo s (fnX name qual params body scope [] dV kV doc pm an cdv ct) args binds)
    (hkind : ∀ n, ∀ x ∈ binds, scope.names.lookup x.1 = some .local ∨ (scope.names.lookup x.1 = some .cell ∧ ((cellsFrom n scope.names []).lookup x.1).isSome = true))
    (hnd : ((cellsFrom 0 scope.names []).map (·.1)).Nodup)
    (h : ∀ g L' h₁ tk cells, Fr h₀ L g m → Fr g L' h₁ (bindL (envOfC qual scope L' f cdv).kindOf binds fun _ => none) → News g L' h₁ (cells ++ news) →
      CellsAre (bindC (envOfC qual scope L' f cdv).kindOf binds fun _ => none) (cellsFrom (L' + 1) scope.names []) cells → Below A base (env :: outer) g → K.In g → Top p loose mean mg mb g → GSub s.heap g (news.map (·.1)) → (∀ b o, g.get? b = some o → s.heap.get? b = some o) →
      (∀ q ∈ cells, ∀ p ∈ news, q.1 ≠ p.1) →
      wpAny (model prog w) (A.deeper (envOfC qual scope L' f cdv)) (execs body (envOfC qual scope L' f cdv))
        (fun fl s' => R (.ok (.ret (match fl with | .ret v => v | _ => .none))) s')
        (fun e s' => wpAny (model prog w) (A.deeper (envOfC qual scope L' f cdv)) (leaving (envOfC qual scope L' f cdv) e) (fun _ s'' => R (.error e) s'') (fun e' s'' => R (.error e') s'') s')
        { s with heap := h₁, toks := tk })
    (hco : scope.isCoroutine = false) (hgen : scope.isGenerator = false) (hk : scope.kind = .function) : codeAny (model prog w) A (.call (.ref f) args) R s := by
  refine byNo fun hno => ?_
  obtain ⟨FG, BG, st, -⟩ := groundX (R := R) B F N hA hf hke
  refine hno ?_
  clear hno
  refine codeAny_call_function hroom ((X₀.keeps F.keep) _ _ ho) rfl hco hgen rfl (codeRec_of (X₀.keeps F.keep) hcd) (hbind _ _ _ _ ?_)
  refine wpAny_newFunctionEnv_cells hk (hkind _) fun env' he s' x => ?_
  subst he
  refine ⟨(T.nolimit.keeps F.keep).keeps x.toInCall.keep, codeAny_func ?_⟩
  refine byNo fun hno => ?_
  obtain ⟨h₁, tk, rfl, _⟩ := x.done
  refine hno ?_
  clear hno
  have hk₁ := x.toInCall.keep
  refine byNo fun hno => ?_
  obtain ⟨cells, NC, Y⟩ := Cl.news (h₀ := s.heap) (Nat.le_refl _) fun n c hm => ⟨x.cell n c (lookup_of_mem_nodup (cellsFrom_names scope.names 0 (s.heap.objs.size + 1) [] [] rfl ▸ hnd) hm), x.above n c hm⟩
  refine hno ?_
  clear hno
  refine h _ s.heap.objs.size h₁ tk cells FG ⟨x.toInCall.ns, fun b o e => hk₁ b o (of_hideAll _ e), Nat.le_of_eq (hideAll_size _ _)⟩ (fun p hp => ?_) Y BG (X₀.keeps st) (T.keeps st) (fun b o e n => hideAll_get _ e n) (fun b o e => of_hideAll _ e)
    (fun q hq p hp e => by have a := (NC q hq).2.2; rw [e, (N p hp).1] at a; cases a)
  rcases List.mem_append.mp hp with hp | hp
  · refine ⟨(NC p hp).1, (NC p hp).2.1, ?_⟩
    cases q : (hideAll s.heap (news.map (·.1))).get? p.1 with
    | none => rfl
    | some o => have := of_hideAll _ q; rw [(NC p hp).2.2] at this; cases this
  · exact ⟨hk₁ _ _ (N p hp).1, Nat.ne_of_lt (Heap.lt_size (N p hp).1), hideAll_none _ (List.mem_map_of_mem hp)⟩
end
end
section
open PySem PySem.W PyProof.Rows PySem.Calls PySem.Spec
set_option maxRecDepth 100000
set_option maxHeartbeats 2000000
noncomputable def SpecR (w : World) (mean : ExcName → Option Value) (mg mb : Str → Option Value) (f : Addr) (args : List Value) (dep un₀ : Nat) (C : Addr)
    (Pre : Heap → Prop) (Post : Value → List (Addr × Obj) → Prop) (RPost : Obj → Prop) : Prop :=
  ∀ (dp un : Nat) (gd : Option (List Code)) (env : Env) (outer : List Env) (A₀ : Around) (base h₀ : Heap) (L : Addr) (m : Str → Option Value) (s : Shared) (Q E : Value → Shared → Prop),
    Below A₀ base outer h₀ → Fr h₀ L s.heap m → (hd.heap_1 w.params).In h₀ → TP mean mg mb h₀ → env.frame = some L → env.scope.kind = .function →
    dp + dep < recursionLimit → un + un₀ < cLine → Pre s.heap →
    (∀ r new h' tk', Fr h₀ L h' m → (∀ b o, s.heap.get? b = some o → h'.get? b = some o) → NewAt s.heap h' new → Post r new → Q r { s with heap := h', toks := tk' }) →
    (∀ e d od h' tk', Flown base (env :: outer) s.heap h' e C d od (some .none) → RPost od → E (.ref e) { s with heap := h', toks := tk' }) →
    wpAny (model PySem.Challenge.rw_pb0010_01.row.prog w) (topA dp un gd env outer) (call (.ref f) args) Q E s

noncomputable def SpecC (w : World) (mean : ExcName → Option Value) (mg mb : Str → Option Value) (f : Addr) (args : List Value) (dep un₀ : Nat)
    (Pre : Heap → Prop) (Post : Value → List (Addr × Obj) → Prop) : Prop :=
  ∀ (dp un : Nat) (gd : Option (List Code)) (env : Env) (A₀ : Around) (h₀ : Heap) (L : Addr) (m : Str → Option Value) (s : Shared) (Q E : Value → Shared → Prop),
    Below A₀ h₀ [] h₀ → Fr h₀ L s.heap m → (hd.heap_1 w.params).In h₀ → TP mean mg mb h₀ → env.frame = some L → env.scope.kind = .function →
    dp + dep < recursionLimit → un + un₀ < cLine → Pre s.heap →
    (∀ r new h' tk', Fr h₀ L h' m → (∀ b o, s.heap.get? b = some o → b ≠ L → h'.get? b = some o) → NewAt s.heap h' new → Post r new → Q r { s with heap := h', toks := tk' }) →
    wpAny (model PySem.Challenge.rw_pb0010_01.row.prog w) (topA dp un gd env []) (call (.ref f) args) Q E s

noncomputable def DoneR (s : Shared) (g : Heap) (L' : Addr) (Post : Value → List (Addr × Obj) → Prop) (v : Value) (s' : Shared) : Prop :=
  ∃ h' tk' m' new, s' = { s with heap := h', toks := tk' } ∧ Fr g L' h' m' ∧ News g L' h' new ∧ Post v new
noncomputable def LostR (s : Shared) (base g : Heap) (l : List Env) (L' C : Addr) (RPost : Obj → Prop) (ev : Value) (s' : Shared) : Prop :=
  ∃ e d od fl h' tk', ev = .ref e ∧ s' = { s with heap := h', toks := tk' } ∧ Flown base l g h' e C d od fl ∧ (fl = none ∨ fl = some .none ∨ fl = some (rawInt L')) ∧ RPost od

theorem NewAt.of {h g h' : Heap} {L' : Addr} {new : List (Addr × Obj)} (N : News g L' h' new) (k : ∀ b o, h.get? b = some o → g.get? b = some o) : NewAt h h' new := fun p hp => by
  refine ⟨(N p hp).1, ?_⟩
  cases q : h.get? p.1 with
  | none => rfl
  | some o => have := k _ _ q; rw [(N p hp).2.2] at this; cases this
theorem frAfter {h₀ h h' : Heap} {L : Addr} {m : Str → Option Value} (F : Fr h₀ L h m) (k : ∀ b o, h.get? b = some o → h'.get? b = some o) : Fr h₀ L h' m :=
  ⟨F.ns.keeps k, fun b o e => k b o (F.keep b o e), F.above⟩

theorem spec_enterR {w : World} {mean : ExcName → Option Value} {mg mb : Str → Option Value} {f C : Addr} {args : List Value} {dep un₀ : Nat}
    {Pre : Heap → Prop} {Post : Value → List (Addr × Obj) → Prop} {RPost : Obj → Prop}
    {name qual : PySem.Str} {params : Arguments} {body : List Stmt} {scope : Scope} {dV kV doc pm cdv ct oc : Value} {an od : Option Addr} {osl : Array (Option Value)} (binds : List (PySem.Str × Value))
    (ho : (hd.heap_1 w.params).lookup f = some ⟨oc, od, .func (fnOf name qual params body scope dV kV doc pm an cdv ct), osl⟩) (hcd : codeIn (hd.heap_1 w.params) cdv qual = true)
    (hbind : ∀ s, BindsTo s (fnOf name qual params body scope dV kV doc pm an cdv ct) ⟨args, []⟩ binds) (hloc : ∀ y ∈ binds, scope.names.lookup y.1 = some .local)
    (hco : scope.isCoroutine = false) (hgen : scope.isGenerator = false) (hk : scope.kind = .function) (hcell : ∀ x ∈ scope.names, x.2 ≠ .cell)
    (h : ∀ (dp un : Nat) (gd : Option (List Code)) (env : Env) (outer : List Env) (base g : Heap) (L' : Addr) (h₁ : Heap) (s : Shared) (tk : Nat),
      dp + dep < recursionLimit → un + un₀ < cLine → Pre s.heap → GSub s.heap g [] →
      Fr g L' h₁ (fun y => binds.reverse.lookup y) → News g L' h₁ [] → Below (topA dp un gd env outer) base (env :: outer) g → (hd.heap_1 w.params).In g → TP mean mg mb g →
      wpAny (model PySem.Challenge.rw_pb0010_01.row.prog w) ((topA dp un gd env outer).deeper (envOf qual scope L' f cdv)) (execs body (envOf qual scope L' f cdv))
        (fun fl s' => DoneR s g L' Post (retOf fl) s') (fun ev s' => LostR s base g (envOf qual scope L' f cdv :: env :: outer) L' C RPost ev s') { s with heap := h₁, toks := tk }) :
    SpecR w mean mg mb f args dep un₀ C Pre Post RPost := by
  intro dp un gd env outer A₀ base h₀ L m s Q E B F X T hf hke hd hu hP ret rais
  refine wpAny_call ?_
  refine code_def2 B F X News.nil T rfl hf hke ho hcd (by show dp < _; omega) (hbind s) hloc ?_ hco hgen hk hcell
  intro g L' h₁ FG F' N' B' X' T' G' G''
  have k' : ∀ b o, s.heap.get? b = some o → g.get? b = some o := fun b o e => G' b o e (by simp)
  refine wpAny_mono (h dp un gd env outer base g L' h₁ s _ hd hu hP G' F' News.nil B' X' T') ?_ ?_
  · rintro fl s' ⟨h', tk', m', new, rfl, F2, N2, hp⟩
    have k2 : ∀ b o, s.heap.get? b = some o → h'.get? b = some o := fun b o e => F2.keep b o (k' b o e)
    exact ret _ new h' tk' (frAfter F k2) k2 (NewAt.of N2 k') hp
  · rintro ev s' ⟨e, d, od, fl, h', tk', rfl, rfl, Fl, hfl, hp⟩
    refine Flown.leave (s := { s with heap := h', toks := tk' }) (Around.frames_deeper rfl) rfl (Fl.sub k') hfl ?_ ?_
    · cases q : s.heap.get? L' with
      | none => rfl
      | some o => exact absurd (Heap.lt_size (k' _ _ q)) (Nat.not_lt.mpr F'.above)
    · exact fun h'' Fl' => rais e d od h'' tk' Fl' hp

noncomputable def DoneC (s : Shared) (h₀ : Heap) (L L' : Addr) (Post : Value → List (Addr × Obj) → Prop) (v : Value) (s' : Shared) : Prop :=
  ∃ g h' tk' m' new, s' = { s with heap := h', toks := tk' } ∧ Fr g L' h' m' ∧ News g L' h' new ∧ h₀.StaysIn g ∧ (∀ b o, s.heap.get? b = some o → b ≠ L → g.get? b = some o) ∧ s.heap.UpToSlots g ∧ Post v new

theorem doneC_ret {s : Shared} {h₀ : Heap} {L L' : Addr} {m : Str → Option Value} {Post : Value → List (Addr × Obj) → Prop} {v : Value} {s' : Shared} {Q : Value → Shared → Prop} (D : DoneC s h₀ L L' Post v s') (F : Fr h₀ L s.heap m)
    (ret : ∀ r new h' tk', Fr h₀ L h' m → (∀ b o, s.heap.get? b = some o → b ≠ L → h'.get? b = some o) → NewAt s.heap h' new → Post r new → Q r { s with heap := h', toks := tk' }) : Q v s' := by
  refine byNo fun hno => ?_
  obtain ⟨g, h', tk', m', new, rfl, F2, N2, st, k, u, hp⟩ := D
  refine hno ?_
  clear hno
  have u2 : s.heap.UpToSlots h' := u.trans (Heap.UpToSlots.of_keeps F2.keep)
  refine ret v new h' tk' ⟨u2.ns F.ns, fun b o e => F2.keep b o (st b o e), F.above⟩ (fun b o e n => F2.keep b o (k b o e n)) (fun p hp => ⟨(N2 p hp).1, ?_⟩) hp
  cases q : s.heap.get? p.1 with
  | none => rfl
  | some o =>
    by_cases hL : p.1 = L
    · obtain ⟨oL, es, ep, hL', hd, _⟩ := F.ns
      obtain ⟨sl, q'⟩ := u L oL hL' fun vs z => by rw [hd] at z; cases z
      have := (N2 p hp).2.2
      rw [hL, q'] at this; cases this
    · have := k _ _ q hL
      rw [(N2 p hp).2.2] at this; cases this

theorem spec_enterC {w : World} {mean : ExcName → Option Value} {mg mb : Str → Option Value} {f : Addr} {args : List Value} {dep un₀ : Nat}
    {Pre : Heap → Prop} {Post : Value → List (Addr × Obj) → Prop}
    {name qual : PySem.Str} {params : Arguments} {body : List Stmt} {scope : Scope} {dV kV doc pm cdv ct oc : Value} {an od : Option Addr} {osl : Array (Option Value)} (binds : List (PySem.Str × Value))
    (ho : (hd.heap_1 w.params).lookup f = some ⟨oc, od, .func (fnOf name qual params body scope dV kV doc pm an cdv ct), osl⟩) (hcd : codeIn (hd.heap_1 w.params) cdv qual = true)
    (hbind : ∀ s, BindsTo s (fnOf name qual params body scope dV kV doc pm an cdv ct) ⟨args, []⟩ binds) (hloc : ∀ y ∈ binds, scope.names.lookup y.1 = some .local)
    (hco : scope.isCoroutine = false) (hgen : scope.isGenerator = false) (hk : scope.kind = .function) (hcell : ∀ x ∈ scope.names, x.2 ≠ .cell)
    (h : ∀ (dp un : Nat) (gd : Option (List Code)) (env : Env) (h₀ g : Heap) (L L' : Addr) (h₁ : Heap) (s : Shared) (tk : Nat),
      dp + dep < recursionLimit → un + un₀ < cLine → Pre s.heap → GSub s.heap g [] → env.frame = some L → h₀.StaysIn g →
      Fr g L' h₁ (fun y => binds.reverse.lookup y) → News g L' h₁ [] → Below (topA dp un gd env []) h₀ [env] g → (hd.heap_1 w.params).In h₀ → TP mean mg mb h₀ →
      wpAny (model PySem.Challenge.rw_pb0010_01.row.prog w) ((topA dp un gd env []).deeper (envOf qual scope L' f cdv)) (execs body (envOf qual scope L' f cdv))
        (fun fl s' => DoneC s h₀ L L' Post (retOf fl) s') (fun _ _ => False) { s with heap := h₁, toks := tk }) :
    SpecC w mean mg mb f args dep un₀ Pre Post := by
  intro dp un gd env A₀ h₀ L m s Q E B F X T hf hke hd hu hP ret
  refine wpAny_call ?_
  refine code_def2 B F X News.nil T rfl hf hke ho hcd (by show dp < _; omega) (hbind s) hloc ?_ hco hgen hk hcell
  intro g L' h₁ FG F' N' B' X' T' G' G''
  refine wpAny_mono (h dp un gd env h₀ g L L' h₁ s _ hd hu hP G' hf FG.keep F' News.nil B' X T) ?_ (fun _ _ x => x.elim)
  exact fun fl s' D => doneC_ret D F ret

theorem spec_enterCC {w : World} {mean : ExcName → Option Value} {mg mb : Str → Option Value} {f : Addr} {args : List Value} {dep un₀ : Nat}
    {Pre : Heap → Prop} {Post : Value → List (Addr × Obj) → Prop}
    {name qual : PySem.Str} {params : Arguments} {body : List Stmt} {scope : Scope} {dV kV doc pm cdv ct oc : Value} {an od : Option Addr} {osl : Array (Option Value)} (binds : List (PySem.Str × Value))
    (ho : (hd.heap_1 w.params).lookup f = some ⟨oc, od, .func (fnX name qual params body scope [] dV kV doc pm an cdv ct), osl⟩) (hcd : codeIn (hd.heap_1 w.params) cdv qual = true)
    (hbind : ∀ s, BindsTo s (fnX name qual params body scope [] dV kV doc pm an cdv ct) ⟨args, []⟩ binds)
    (hkind : ∀ n, ∀ x ∈ binds, scope.names.lookup x.1 = some .local ∨ (scope.names.lookup x.1 = some .cell ∧ ((cellsFrom n scope.names []).lookup x.1).isSome = true))
    (hnd : ((cellsFrom 0 scope.names []).map (·.1)).Nodup)
    (hco : scope.isCoroutine = false) (hgen : scope.isGenerator = false) (hk : scope.kind = .function)
    (h : ∀ (dp un : Nat) (gd : Option (List Code)) (env : Env) (h₀ g : Heap) (L L' : Addr) (h₁ : Heap) (s : Shared) (tk : Nat) (cells : List (Addr × Obj)),
      dp + dep < recursionLimit → un + un₀ < cLine → Pre s.heap → GSub s.heap g [] → env.frame = some L → h₀.StaysIn g →
      Fr g L' h₁ (bindL (envOfC qual scope L' f cdv).kindOf binds fun _ => none) → News g L' h₁ cells → CellsAre (bindC (envOfC qual scope L' f cdv).kindOf binds fun _ => none) (cellsFrom (L' + 1) scope.names []) cells →
      Below (topA dp un gd env []) h₀ [env] g → (hd.heap_1 w.params).In h₀ → TP mean mg mb h₀ →
      wpAny (model PySem.Challenge.rw_pb0010_01.row.prog w) ((topA dp un gd env []).deeper (envOfC qual scope L' f cdv)) (execs body (envOfC qual scope L' f cdv))
        (fun fl s' => DoneC s h₀ L L' Post (retOf fl) s') (fun _ _ => False) { s with heap := h₁, toks := tk }) :
    SpecC w mean mg mb f args dep un₀ Pre Post := by
  intro dp un gd env A₀ h₀ L m s Q E B F X T hf hke hd hu hP ret
  refine wpAny_call ?_
  refine code_def2C B F X News.nil T rfl hf hke ho hcd (by show dp < _; omega) (hbind s) hkind hnd ?_ hco hgen hk
  intro g L' h₁ tk cells FG F' N' Y B' X' T' G' G'' _
  refine wpAny_mono (h dp un gd env h₀ g L L' h₁ s _ cells hd hu hP G' hf FG.keep F' (fun p hp => N' p (by simpa using hp)) Y B' X T) ?_ (fun _ _ x => x.elim)
  exact fun fl s' D => doneC_ret D F ret

theorem spec_enterK {w : World} {mean : ExcName → Option Value} {mg mb : Str → Option Value} {f : Addr} {args : List Value} {dep un₀ : Nat}
    {old : List (Addr × Obj)} {Pre : Heap → Prop} {Post : Value → List (Addr × Obj) → List (Addr × Obj) → Prop}
    {name qual : PySem.Str} {params : Arguments} {body : List Stmt} {scope : Scope} {dV kV doc pm cdv ct oc : Value} {an od : Option Addr} {osl : Array (Option Value)} (binds : List (PySem.Str × Value))
    (ho : (hd.heap_1 w.params).lookup f = some ⟨oc, od, .func (fnX name qual params body scope [] dV kV doc pm an cdv ct), osl⟩) (hcd : codeIn (hd.heap_1 w.params) cdv qual = true)
    (hbind : ∀ s, BindsTo s (fnX name qual params body scope [] dV kV doc pm an cdv ct) ⟨args, []⟩ binds)
    (hkind : ∀ n, ∀ x ∈ binds, scope.names.lookup x.1 = some .local ∨ (scope.names.lookup x.1 = some .cell ∧ ((cellsFrom n scope.names []).lookup x.1).isSome = true))
    (hnd : ((cellsFrom 0 scope.names []).map (·.1)).Nodup)
    (hco : scope.isCoroutine = false) (hgen : scope.isGenerator = false) (hk : scope.kind = .function)
    (h : ∀ (dp un : Nat) (gd : Option (List Code)) (env : Env) (outer : List Env) (base g : Heap) (L' : Addr) (h₁ : Heap) (s : Shared) (tk : Nat) (cells : List (Addr × Obj)),
      dp + dep < recursionLimit → un + un₀ < cLine → Pre s.heap → GSub s.heap g (adrs old) →
      Fr g L' h₁ (bindL (envOfC qual scope L' f cdv).kindOf binds fun _ => none) → News g L' h₁ (cells ++ old) → CellsAre (bindC (envOfC qual scope L' f cdv).kindOf binds fun _ => none) (cellsFrom (L' + 1) scope.names []) cells →
      (∀ q ∈ cells, ∀ p ∈ old, q.1 ≠ p.1) →
      Below (topA dp un gd env outer) base (env :: outer) g → (hd.heap_1 w.params).In g → TP mean mg mb g →
      wpAny (model PySem.Challenge.rw_pb0010_01.row.prog w) ((topA dp un gd env outer).deeper (envOfC qual scope L' f cdv)) (execs body (envOfC qual scope L' f cdv))
        (fun fl s' => Done s g L' old Post (retOf fl) s') (fun _ _ => False) { s with heap := h₁, toks := tk }) :
    Spec w mean mg mb f args dep un₀ old Pre Post := by
  intro dp un gd env outer A₀ base h₀ L m s Q E B F X N T hf hke hd hu hP ret
  refine wpAny_call ?_
  refine code_def2C B F X N T rfl hf hke ho hcd (by show dp < _; omega) (hbind s) hkind hnd ?_ hco hgen hk
  intro g L' h₁ tk cells FG F' N' Y B' X' T' G' G'' hca
  refine wpAny_mono (h dp un gd env outer base g L' h₁ s _ cells hd hu hP G' F' N' Y hca B' X' T') ?_ (fun _ _ x => x.elim)
  intro fl s' hq2
  refine byNo fun hno => ?_
  obtain ⟨h', tk', m', upd, new, rfl, F2, N2, N3, ha, hne, hp⟩ := hq2
  refine hno ?_
  clear hno
  have kb : KeepsBut (adrs old) s.heap h' := fun b o hb e => F2.keep b o (G' b o e hb)
  refine byNo fun hno => ?_
  obtain ⟨oL, es, ep, hL, r⟩ := F.ns
  refine hno ?_
  clear hno
  have nL : L ∉ adrs old := fun q => by
    refine byNo fun hno => ?_
    obtain ⟨p, hp, e⟩ := List.mem_map.mp q
    refine hno ?_
    clear hno
    exact (N p hp).2.1 e
  have F3 : Fr h₀ L h' m := ⟨⟨oL, es, ep, kb L oL nL hL, r⟩, fun b o e => F2.keep b o (FG.keep b o e), F.above⟩
  refine ret _ upd new h' tk' ha F3 (fun p hp => ?_) kb (fun p hp => ⟨(N3 p hp).1, ?_⟩) hp
  · have hm : p.1 ∈ adrs old := ha ▸ List.mem_map_of_mem hp
    refine byNo fun hno => ?_
    obtain ⟨q, hq, e⟩ := List.mem_map.mp hm
    refine hno ?_
    clear hno
    exact ⟨(N2 p hp).1, e ▸ (N q hq).2⟩
  · cases e : s.heap.get? p.1 with
    | none => rfl
    | some o =>
      by_cases hm : p.1 ∈ adrs old
      · rw [← ha] at hm
        refine byNo fun hno => ?_
        obtain ⟨q, hq, e2⟩ := List.mem_map.mp hm
        refine hno ?_
        clear hno
        exact absurd e2.symm (hne p hp q hq)
      · have := G' _ _ e hm
        rw [(N3 p hp).2.2] at this; cases this
end
set_option maxHeartbeats 4000000
section
noncomputable def SpecI (w : World) (mean : ExcName → Option Value) (mg mb : Str → Option Value) (f : Addr) (args : List Value) (dep un₀ : Nat)
    (old : List (Addr × Obj)) (Post : Value → List (Addr × Obj) → List (Addr × Obj) → Prop) : Prop :=
  ∀ (dp un : Nat) (gd : Option (List Code)) (env : Env) (outer : List Env) (A₀ : Around) (base h₀ : Heap) (L : Addr) (m : Str → Option Value) (s : Shared) (R : Result → Shared → Prop),
    Below A₀ base outer h₀ → Fr h₀ L s.heap m → (hd.heap_1 w.params).In h₀ → News h₀ L s.heap old → TP mean mg mb h₀ → env.frame = some L → env.scope.kind = .function →
    dp + dep < recursionLimit → un + un₀ < cLine →
    (∀ r upd new h' tk', adrs upd = adrs old → Fr h₀ L h' m → News h₀ L h' upd → KeepsBut (adrs old) s.heap h' → NewAt s.heap h' new → Post r upd new → R (.ok (.ret r)) { s with heap := h', toks := tk' }) →
    codeAny (model PySem.Challenge.rw_pb0010_01.row.prog w) (topA dp un gd env outer) (.call (.ref f) ⟨args, []⟩) R s
theorem spec_enterI {w : World} {mean : ExcName → Option Value} {mg mb : Str → Option Value} {f : Addr} {args : List Value} {dep un₀ : Nat}
    {old : List (Addr × Obj)} {Post : Value → List (Addr × Obj) → List (Addr × Obj) → Prop}
    {name qual : PySem.Str} {params : Arguments} {body : List Stmt} {scope : Scope} {dV kV doc pm cdv ct oc : Value} {an od : Option Addr} {osl : Array (Option Value)} (binds : List (PySem.Str × Value))
    (ho : (hd.heap_1 w.params).lookup f = some ⟨oc, od, .func (fnOf name qual params body scope dV kV doc pm an cdv ct), osl⟩) (hcd : codeIn (hd.heap_1 w.params) cdv qual = true)
    (hbind : ∀ s, BindsTo s (fnOf name qual params body scope dV kV doc pm an cdv ct) ⟨args, []⟩ binds) (hloc : ∀ y ∈ binds, scope.names.lookup y.1 = some .local)
    (hco : scope.isCoroutine = false) (hgen : scope.isGenerator = false) (hk : scope.kind = .function) (hcell : ∀ x ∈ scope.names, x.2 ≠ .cell)
    (h : ∀ (dp un : Nat) (gd : Option (List Code)) (env : Env) (outer : List Env) (base g : Heap) (L' : Addr) (h₁ : Heap) (s : Shared) (tk : Nat),
      dp + dep < recursionLimit → un + un₀ < cLine → GSub s.heap g (adrs old) →
      Fr g L' h₁ (fun y => binds.reverse.lookup y) → News g L' h₁ old → Below (topA dp un gd env outer) base (env :: outer) g → (hd.heap_1 w.params).In g → TP mean mg mb g →
      wpAny (model PySem.Challenge.rw_pb0010_01.row.prog w) ((topA dp un gd env outer).deeper (envOf qual scope L' f cdv)) (execs body (envOf qual scope L' f cdv))
        (fun fl s' => Done s g L' old Post (retOf fl) s') (fun _ _ => False) { s with heap := h₁, toks := tk }) :
    SpecI w mean mg mb f args dep un₀ old Post := by
  intro dp un gd env outer A₀ base h₀ L m s R B F X N T hf hke hd hu ret
  refine code_def2 B F X N T rfl hf hke ho hcd (by show dp < _; omega) (hbind s) hloc ?_ hco hgen hk hcell
  intro g L' h₁ FG F' N' B' X' T' G' _
  refine wpAny_mono (h dp un gd env outer base g L' h₁ s _ hd hu G' F' N' B' X' T') ?_ (fun _ _ x => x.elim)
  intro fl s' hq2
  refine byNo fun hno => ?_
  obtain ⟨h', tk', m', upd, new, rfl, F2, N2, N3, ha, hne, hp⟩ := hq2
  refine hno ?_
  clear hno
  have kb : KeepsBut (adrs old) s.heap h' := fun b o hb e => F2.keep b o (G' b o e hb)
  refine byNo fun hno => ?_
  obtain ⟨oL, es, ep, hL, r⟩ := F.ns
  refine hno ?_
  clear hno
  have nL : L ∉ adrs old := fun q => by
    refine byNo fun hno => ?_
    obtain ⟨p, hp, e⟩ := List.mem_map.mp q
    refine hno ?_
    clear hno
    exact (N p hp).2.1 e
  refine ret _ upd new h' tk' ha ⟨⟨oL, es, ep, kb L oL nL hL, r⟩, fun b o e => F2.keep b o (FG.keep b o e), F.above⟩ (fun p hp => ?_) kb (fun p hp => ⟨(N3 p hp).1, ?_⟩) hp
  · have hm : p.1 ∈ adrs old := ha ▸ List.mem_map_of_mem hp
    refine byNo fun hno => ?_
    obtain ⟨q, hq, e⟩ := List.mem_map.mp hm
    refine hno ?_
    clear hno
    exact ⟨(N2 p hp).1, e ▸ (N q hq).2⟩
  · cases e : s.heap.get? p.1 with
    | none => rfl
    | some o =>
      by_cases hm : p.1 ∈ adrs old
      · rw [← ha] at hm
        refine byNo fun hno => ?_
        obtain ⟨q, hq, e2⟩ := List.mem_map.mp hm
        refine hno ?_
        clear hno
        exact absurd e2.symm (hne p hp q hq)
      · have := G' _ _ e hm
        rw [(N3 p hp).2.2] at this; cases this
theorem Done.upd {s : Shared} {g h' : Heap} {L' : Addr} {m' : PySem.Str → Option Value} {old upd : List (Addr × Obj)} {Post : Value → List (Addr × Obj) → List (Addr × Obj) → Prop} {v : Value} {tk : Nat} (F : Fr g L' h' m') (N : News g L' h' upd)
    (hp : Post v upd []) (ha : adrs upd = adrs old) : Done s g L' old Post v { s with heap := h', toks := tk } :=
  ⟨h', tk, m', upd, [], rfl, F, N, News.nil, ha, (fun _ hp => nomatch hp), hp⟩
noncomputable def SubInit (w : World) (x d : Addr) (t c r : Value) (upd new : List (Addr × Obj)) : Prop :=
  r = .none ∧ new = [] ∧ ∃ k1 k2, upd = [(x, instObj 115 d), (d, dictOf [ent w "type" k1 t, ent w "constraint" k2 c] 2)]
theorem sub_init (w : World) (mean mg mb) (x d : Addr) (hxd : x ≠ d) (t c : Value) :
    SpecI w mean mg mb 112 [.ref x, t, c] 10 100 [(x, instObj 115 d), (d, emptyDict)] (SubInit w x d t c) := by
  refine spec_enterI [(Str.ofString "self", .ref x), (Str.ofString "t", t), (Str.ofString "constraint", c)] (by k_is) (by k_is) (fun _ => BindsTo.of_eq rfl) (locs rfl) rfl rfl rfl (by decide) ?_
  intro dp un gd env outer base g L' h₁ s tk₀ hd hu G F N B X T
  k_with_none
  (try k_unmd); (try dsimp only); (try k_fold)
  focus
    iterate 13 ((try dsimp only); walk1)
    (k_unfold; (try dsimp only))
  exact Done.upd (by assumption) (by assumption) ⟨rfl, rfl, _, _, rfl⟩ rfl

noncomputable def SubPost (w : World) (t c r : Value) (_upd new : List (Addr × Obj)) : Prop :=
  ∃ x d k1 k2, r = .ref x ∧ new = [(x, instObj 115 d), (d, dictOf [ent w "type" k1 t, ent w "constraint" k2 c] 2)]
theorem unmk (un C : Nat) (args : List Value) (k : Nat) (hu : un + k + 10 < cLine) : un + (Code.builtin "type.__call__" { pos := Value.ref C :: args }).cUnits + k < cLine := by
  have hcu : (Code.builtin "type.__call__" { pos := Value.ref C :: args }).cUnits ≤ 4 := by exact Nat.le_of_ble_eq_true rfl
  omega
theorem make_spec {w : World} {mean : ExcName → Option Value} {mg mb : Str → Option Value} {C fI : Addr} {args : List Value} {P : Addr → Addr → Value → List (Addr × Obj) → List (Addr × Obj) → Prop} {Post : Value → List (Addr × Obj) → List (Addr × Obj) → Prop}
    (hm : makesIn (hd.heap_1 w.params) C = true) (hi : findIn (hd.heap_1 w.params) (.ref C) "__init__" = some (some (.ref fI))) (hfn : typeIn (hd.heap_1 w.params) (.ref fI) = some (.type "function"))
    (S : ∀ x d, x ≠ d → SpecI w mean mg mb fI (.ref x :: args) 10 100 [(x, instObj C d), (d, emptyDict)] (P x d))
    (hp : ∀ x d r upd new, x ≠ d → P x d r upd new → r = .none ∧ Post (.ref x) [] (upd ++ new)) : Spec w mean mg mb C args 20 1000 [] (fun _ => True) Post := by
  intro dp un gd env outer A₀ base h₀ L m s Q E B F X N T hf hk hd hu hP ret
  obtain ⟨hh, g0, dr, tk0, os⟩ := s
  have X₁ := X.keeps F.keep
  refine wpAny_call (make_core (makes_of X₁ hm) (looks_findIn X₁ hi) (fun self => bind_fn X₁ self hfn) (.inl rfl) ?_)
  have F' := (F.push emptyDict).push (instObj C hh.objs.size)
  have N' := (News.push F N emptyDict).push (F.push emptyDict) (instObj C hh.objs.size)
  rw [Heap.size_push] at N'
  have k0 : ∀ b o, hh.get? b = some o → ((hh.push emptyDict).push (instObj C hh.objs.size)).get? b = some o ∧ b < hh.objs.size := fun b o e => ⟨Heap.get?_push_of_some _ (Heap.get?_push_of_some _ e), Heap.lt_size e⟩
  refine S (hh.objs.size + 1) hh.objs.size (Nat.succ_ne_self _) (dp + 1) _ _ env outer A₀ base h₀ L m _ _ B F' X N' T hf hk (by omega) (unmk un C args 100 (by omega)) ?_
  rintro r upd new h'' tk'' ha F2 N2 kb Z hpo
  obtain ⟨rfl, hp'⟩ := hp _ _ r upd new (Nat.succ_ne_self _) hpo
  have k1 : ∀ b o, hh.get? b = some o → h''.get? b = some o := fun b o e => by
    obtain ⟨e1, n1⟩ := k0 b o e
    refine kb b o ?_ e1
    show b ∉ [hh.objs.size + 1, hh.objs.size]
    simp only [List.mem_cons, List.not_mem_nil, or_false, not_or]
    exact ⟨Nat.ne_of_lt (Nat.lt_succ_of_lt n1), Nat.ne_of_lt n1⟩
  have nn : ∀ b, hh.objs.size ≤ b → hh.get? b = none := fun b hb => Heap.get?_none_of_le hb
  refine ⟨rfl, ret (.ref _) [] (upd ++ new) h'' tk'' rfl F2 News.nil (fun b o _ e => k1 b o e) ?_ hp'⟩
  intro p hp
  rcases List.mem_append.mp hp with hp | hp
  · refine ⟨(N2 p hp).1, nn _ ?_⟩
    have hm : p.1 ∈ [hh.objs.size + 1, hh.objs.size] := (show adrs upd = [hh.objs.size + 1, hh.objs.size] from ha) ▸ List.mem_map_of_mem hp
    rcases List.mem_cons.mp hm with e | hm
    · rw [e]; exact Nat.le_succ _
    · rw [List.mem_singleton.mp hm]; exact Nat.le_refl _
  · refine ⟨(Z p hp).1, ?_⟩
    cases q : hh.get? p.1 with
    | none => rfl
    | some o => have := (k0 _ _ q).1; rw [(Z p hp).2] at this; cases this
theorem subtype_spec (w : World) (mean mg mb) (t c : Value) : Spec w mean mg mb 115 [t, c] 20 1000 [] (fun _ => True) (SubPost w t c) :=
  make_spec (by k_is) (by k_is) (by k_is) (fun x d h => sub_init w mean mg mb x d h t c) (by
    rintro x d r upd new _ ⟨rfl, rfl, k1, k2, rfl⟩
    exact ⟨rfl, x, d, k1, k2, rfl, rfl⟩)
end
set_option maxHeartbeats 4000000
structure TF where
  kind : Value
  name : Value
  number : Value
  parent : Value
  low : Value
  high : Value
  literals : Value
  modulus : Value
  small : Value
  index : Value
  component : Value
  constrained : Value
  discs : Value
  comps : Value
  variant : Value
  designated : Value
  tagged : Value
  wide : Value
  limited : Value
  priv : Value
  ops : Value

noncomputable def TF.handed (T : TF) : Bool := handedIn T.kind && handedIn T.name && handedIn T.number && handedIn T.parent && handedIn T.low && handedIn T.high && handedIn T.literals && handedIn T.modulus && handedIn T.small && handedIn T.index && handedIn T.component && handedIn T.constrained && handedIn T.discs && handedIn T.comps && handedIn T.variant && handedIn T.designated && handedIn T.tagged && handedIn T.wide && handedIn T.limited && handedIn T.priv && handedIn T.ops
noncomputable abbrev tyEs (w : World) (k0 k1 k2 k3 k4 k5 k6 k7 k8 k9 k10 k11 k12 k13 k14 k15 k16 k17 k18 k19 k20 : Tok) (T : TF) : List DictEntry := [ent w "kind" k0 T.kind, ent w "name" k1 T.name, ent w "number" k2 T.number, ent w "parent" k3 T.parent, ent w "low" k4 T.low, ent w "high" k5 T.high, ent w "literals" k6 T.literals, ent w "modulus" k7 T.modulus, ent w "small" k8 T.small, ent w "index" k9 T.index, ent w "component" k10 T.component, ent w "is_constrained" k11 T.constrained, ent w "discriminants" k12 T.discs, ent w "components" k13 T.comps, ent w "variant" k14 T.variant, ent w "designated" k15 T.designated, ent w "is_tagged" k16 T.tagged, ent w "wide" k17 T.wide, ent w "is_limited" k18 T.limited, ent w "is_private" k19 T.priv, ent w "operations" k20 T.ops]
noncomputable def TyDict (w : World) (T : TF) (od : Obj) : Prop := ∃ k0 k1 k2 k3 k4 k5 k6 k7 k8 k9 k10 k11 k12 k13 k14 k15 k16 k17 k18 k19 k20, od = dictOf (tyEs w k0 k1 k2 k3 k4 k5 k6 k7 k8 k9 k10 k11 k12 k13 k14 k15 k16 k17 k18 k19 k20 T) 21
section
noncomputable def TyInit (w : World) (x d : Addr) (r : Value) (upd new : List (Addr × Obj)) : Prop :=
  r = .none ∧ ∃ op od oo T, T.parent = .none ∧ TyDict w T od ∧ oo.IsDictOf (PySem.strKind PySem.Challenge.rw_pb0010_01.row.prog w) [] ∧ T.ops = .ref op ∧ op ≠ x ∧ op ≠ d ∧ (op == sysModules) = false ∧ T.handed = true ∧ upd = [(x, instObj 94 d), (d, od)] ∧ new = [(op, oo)]
theorem neGt {a b : Nat} (h : b < a) : a ≠ b := Nat.ne_of_gt h
theorem Done.ty {s : Shared} {g h' : Heap} {L' : Addr} {m' : PySem.Str → Option Value} {old upd : List (Addr × Obj)} {a1 a2 a3 a4 a5 a6 : Addr × Obj} {Post : Value → List (Addr × Obj) → List (Addr × Obj) → Prop} {v : Value} {tk : Nat} (F : Fr g L' h' m') (N : News g L' h' (a1 :: a2 :: a3 :: a4 :: a5 :: a6 :: upd))
    (hne : ∀ q ∈ upd, a1.1 ≠ q.1) (hp : Post v upd [a1]) (ha : adrs upd = adrs old) : Done s g L' old Post v { s with heap := h', toks := tk } :=
  ⟨h', tk, m', upd, [a1], rfl, F, fun p hp => N p (by simp [hp]), fun p hp => N p (by rw [List.mem_singleton.mp hp]; exact .head _), ha, (fun p hp q hq => by rw [List.mem_singleton.mp hp]; exact hne q hq), hp⟩
theorem two_ne {x d a : Addr} {o1 o2 : Obj} (h1 : a ≠ x) (h2 : a ≠ d) : ∀ q ∈ [(x, o1), (d, o2)], a ≠ q.1 := fun q hq => by
  rcases List.mem_cons.mp hq with rfl | hq
  · exact h1
  · rw [List.mem_singleton.mp hq]; exact h2
theorem ty_init (w : World) (mean mg mb) (x d : Addr) (hxd : x ≠ d) (kind name : Value) (hkn : handedIn kind = true) (hnm : handedIn name = true) :
    SpecI w mean mg mb 91 [.ref x, kind, name] 10 100 [(x, instObj 94 d), (d, emptyDict)] (TyInit w x d) := by
  refine spec_enterI [(Str.ofString "self", .ref x), (Str.ofString "kind", kind), (Str.ofString "name", name)] (by k_is) (by k_is) (fun _ => BindsTo.of_eq rfl) (locs rfl) rfl rfl rfl (by decide) ?_
  intro dp un gd env outer base g L' h₁ s tk₀ hd hu G F N B X T
  k_with_none
  (try k_unmd); (try dsimp only); (try k_fold)
  focus
    iterate 141 ((try dsimp only); walk1)
    (k_unfold; (try dsimp only))
  refine Done.ty (by assumption) (by assumption) (two_ne ?_ ?_) ⟨rfl, _, _, _, ⟨_, _, _, _, _, _, _, _, _, _, _, _, _, _, _, _, _, _, _, _, _⟩, rfl, ⟨_, _, _, _, _, _, _, _, _, _, _, _, _, _, _, _, _, _, _, _, _, rfl⟩, by assumption, rfl, ?_, ?_, by assumption, ?_, rfl, rfl⟩ rfl <;> first | k_ne | (unfold TF.handed; dsimp only; rw [hkn, hnm]; rfl)
noncomputable def TyPost (w : World) (r : Value) (_upd new : List (Addr × Obj)) : Prop :=
  ∃ x d op od oo T, r = .ref x ∧ x ≠ d ∧ op ≠ x ∧ op ≠ d ∧ (op == sysModules) = false ∧ T.handed = true ∧ T.parent = .none ∧ TyDict w T od ∧ oo.IsDictOf (PySem.strKind PySem.Challenge.rw_pb0010_01.row.prog w) [] ∧ T.ops = .ref op ∧ new = [(x, instObj 94 d), (d, od), (op, oo)]
theorem type_spec (w : World) (mean mg mb) (kind name : Value) (hkn : handedIn kind = true) (hnm : handedIn name = true) : Spec w mean mg mb 94 [kind, name] 20 1000 [] (fun _ => True) (TyPost w) :=
  make_spec (by k_is) (by k_is) (by k_is) (fun x d h => ty_init w mean mg mb x d h kind name hkn hnm) (by
    intro x d r upd new hxd hq6
    refine byNo fun hno => ?_
    obtain ⟨rfl, op, od, oo, T, h1, h2, h3, h4, h5, h6, h7, h8, rfl, rfl⟩ := hq6
    refine hno ?_
    clear hno
    exact ⟨rfl, x, d, op, od, oo, T, rfl, ‹x ≠ d›, h5, h6, h7, h8, h1, h2, h3, h4, rfl⟩)
end
section
open PySem PySem.W PyProof.Rows PySem.Calls PySem.SeqAt
set_option maxRecDepth 100000
set_option maxHeartbeats 1000000
section
variable {prog : Program} {w : World} {A : Around} {E : Value → Shared → Prop} {s : Shared} {l b : Addr} {vs ws : List Value} {Q : Value → Shared → Prop}
theorem ne_of_rc {k : Bool} (h : RcNeAt A s (.ref l) (.ref b) k) (q : Q (.bool k) s) : wpAny (model prog w) A (compareOp .NotEq (.ref l) (.ref b)) Q E s := h prog w E Q q
theorem eq_empty (hl : s.heap.IsList l vs.toArray) (hb : s.heap.IsList b #[]) (hu : A.units < cLine) (h : Q (.bool vs.isEmpty) s) : wpAny (model prog w) A (compareOp .Eq (.ref l) (.ref b)) Q E s := by
  cases vs with
  | nil => exact eq_listAt (e := fun _ => true) hl hb rfl hu (fun j h1 _ => absurd h1 (Nat.not_lt_zero _)) h
  | cons v r => exact eq_list_lengthsAt hl hb (by simp) hu h
theorem ne_empty (hl : s.heap.IsList l vs.toArray) (hb : s.heap.IsList b #[]) (hu : A.units < cLine) (h : Q (.bool (!vs.isEmpty)) s) : wpAny (model prog w) A (compareOp .NotEq (.ref l) (.ref b)) Q E s := by
  cases vs with
  | nil => exact ne_of_rc (RcNeAt.lists (e := fun _ => true) hl hb rfl hu (fun j h1 _ => absurd h1 (Nat.not_lt_zero _))) h
  | cons v r => exact ne_of_rc (RcNeAt.lists_lengths hl hb (by simp) hu) h
theorem all_eq {α : Type} [DecidableEq α] {xs ys : List α} (h : xs.length = ys.length) : ((List.range xs.length).all fun j => decide (xs[j]? = ys[j]?)) = decide (xs = ys) := by
  rw [Bool.eq_iff_iff, List.all_eq_true, decide_eq_true_iff]
  constructor
  · intro k
    refine List.ext_getElem? fun i => ?_
    by_cases hi : i < xs.length
    · simpa using k i (List.mem_range.mpr hi)
    · rw [List.getElem?_eq_none (Nat.le_of_not_lt hi), List.getElem?_eq_none (h ▸ Nat.le_of_not_lt hi)]
  · rintro rfl j _
    simp
theorem strs_at {xs ys : List PySem.Str} (h1 : StrsAre vs xs) (h2 : StrsAre ws ys) (j : Nat) (i1 : j < vs.toArray.size) (i2 : j < ws.toArray.size) : EqAt A.in1 s vs.toArray[j] ws.toArray[j] (decide (xs[j]? = ys[j]?)) := by
  have i1' : j < vs.length := by simpa using i1
  have i2' : j < ws.length := by simpa using i2
  refine byNo fun hno => ?_
  obtain ⟨x, t, e1, e2⟩ := h1.item j _ (List.getElem?_eq_getElem i1')
  obtain ⟨y, u, f1, f2⟩ := h2.item j _ (List.getElem?_eq_getElem i2')
  refine hno ?_
  clear hno
  rw [List.getElem_toArray, List.getElem_toArray, e1, f1, e2, f2]
  have := EqAt.str_str (A := A.in1) (s := s) x t y u
  have q : (decide (some x = some y)) = (x == y) := by
    rw [Bool.eq_iff_iff]; simp
  rw [q]; exact this
theorem eq_strs {xs ys : List PySem.Str} (hl : s.heap.IsList l vs.toArray) (hb : s.heap.IsList b ws.toArray) (h1 : StrsAre vs xs) (h2 : StrsAre ws ys) (hu : A.units < cLine) (h : Q (.bool (decide (xs = ys))) s) :
    wpAny (model prog w) A (compareOp .Eq (.ref l) (.ref b)) Q E s := by
  have e1 := h1.length
  have e2 := h2.length
  by_cases q : xs.length = ys.length
  · refine eq_listAt hl hb (by simp [e1, e2, q]) hu (strs_at h1 h2) ?_
    rw [List.size_toArray, e1, all_eq q]; exact h
  · have : decide (xs = ys) = false := by rw [decide_eq_false_iff_not]; rintro rfl; exact q rfl
    rw [this] at h
    exact eq_list_lengthsAt hl hb (by simp [e1, e2, q]) hu h
theorem ne_strs {xs ys : List PySem.Str} (hl : s.heap.IsList l vs.toArray) (hb : s.heap.IsList b ws.toArray) (h1 : StrsAre vs xs) (h2 : StrsAre ws ys) (hu : A.units < cLine) (h : Q (.bool (!decide (xs = ys))) s) :
    wpAny (model prog w) A (compareOp .NotEq (.ref l) (.ref b)) Q E s := by
  have e1 := h1.length
  have e2 := h2.length
  by_cases q : xs.length = ys.length
  · refine ne_of_rc (RcNeAt.lists hl hb (by simp [e1, e2, q]) hu (strs_at h1 h2)) ?_
    rw [List.size_toArray, e1, all_eq q]; exact h
  · have : decide (xs = ys) = false := by rw [decide_eq_false_iff_not]; rintro rfl; exact q rfl
    rw [this] at h
    exact ne_of_rc (RcNeAt.lists_lengths hl hb (by simp [e1, e2, q]) hu) h
end
theorem isListOf {h : Heap} {a : Addr} {vs : Array Value} {n : Nat} (e : h.get? a = some (listOf vs n)) : h.IsList a vs := ⟨_, e, rfl, n, rfl⟩
end
set_option maxHeartbeats 4000000
noncomputable abbrev SK (w : World) := PySem.strKind PySem.Challenge.rw_pb0010_01.row.prog w
section
variable {w : World} {mean : ExcName → Option Value} {mg mb : PySem.Str → Option Value} {dp un : Nat} {gd : Option (List Code)} {env : Env} {outer : List Env} {A₀ : Around} {base h₀ : Heap} {L : Addr} {m : PySem.Str → Option Value} {s : Shared} {Q : Value → Shared → Prop} {E : Value → Shared → Prop} {news : List (Addr × Obj)}
theorem type_use {kind name : Value} (B : Below A₀ base outer h₀) (F : Fr h₀ L s.heap m) (X : (hd.heap_1 w.params).In h₀) (N : News h₀ L s.heap news) (T : TP mean mg mb h₀)
    (hf : env.frame = some L) (hk : env.scope.kind = .function) (hd : dp + 20 < recursionLimit) (hu : un + 1000 < cLine) (hkn : handedIn kind = true) (hnm : handedIn name = true)
    (ret : ∀ x d op oo T k0 k1 k2 k3 k4 k5 k6 k7 k8 k9 k10 k11 k12 k13 k14 k15 k16 k17 k18 k19 k20 h' tk', Fr h₀ L h' m → News h₀ L h' ((x, instObj 94 d) :: (d, dictOf (tyEs w k0 k1 k2 k3 k4 k5 k6 k7 k8 k9 k10 k11 k12 k13 k14 k15 k16 k17 k18 k19 k20 T) 21) :: (op, oo) :: news) → (@Ne Nat x d ∧ @Ne Nat op x ∧ @Ne Nat op d) → (∀ q ∈ news, q.1 ≠ x ∧ q.1 ≠ d ∧ q.1 ≠ op) → (op == sysModules) = false ∧ T.handed = true →
      T.parent = .none → oo.IsDictOf (SK w) [] → T.ops = .ref op → Q (.ref x) { s with heap := h', toks := tk' }) :
    wpAny (model PySem.Challenge.rw_pb0010_01.row.prog w) (topA dp un gd env outer) (call (.ref 94) [kind, name]) Q E s := by
  refine Spec.use0 (type_spec w mean mg mb kind name hkn hnm) B F X N T hf hk hd hu trivial ?_
  rintro r new h' tk' F' N' hne - ⟨x, d, op, od, oo, T, rfl, h1, h2, h3, h8, h9, h4, ⟨k0, k1, k2, k3, k4, k5, k6, k7, k8, k9, k10, k11, k12, k13, k14, k15, k16, k17, k18, k19, k20, rfl⟩, h6, h7, rfl⟩
  refine ret x d op oo T _ _ _ _ _ _ _ _ _ _ _ _ _ _ _ _ _ _ _ _ _ h' tk' F' N' ⟨h1, h2, h3⟩ (fun q hq => ⟨hne q hq _ (.head _), hne q hq _ (.tail _ (.head _)), hne q hq _ (.tail _ (.tail _ (.head _)))⟩) ⟨h8, h9⟩ h4 h6 h7
end
theorem hRef (a : Addr) : handedIn (.ref a) = true := rfl
theorem hBool (a : Bool) : handedIn (.bool a) = true := rfl
theorem hand_int {T : TF} {low high : Value} (h : T.handed = true) (h1 : handedIn low = true) (h2 : handedIn high = true) : ({ T with low := low, high := high } : TF).handed = true := by
  simp only [TF.handed, Bool.and_eq_true] at h ⊢
  simp only [h, h1, h2, and_self]
theorem hand_rec {T : TF} {variant : Value} {a b : Addr} {c : Bool} (h : T.handed = true) (h1 : handedIn variant = true) : ({ T with discs := .ref a, comps := .ref b, variant := variant, constrained := .bool c } : TF).handed = true := by
  simp only [TF.handed, Bool.and_eq_true, hRef, hBool] at h ⊢
  simp only [h, h1, and_self]
theorem tyPost {w : World} {x d op : Addr} {oo : Obj} (T : TF) {k0 k1 k2 k3 k4 k5 k6 k7 k8 k9 k10 k11 k12 k13 k14 k15 k16 k17 k18 k19 k20 : Tok} (h : @Ne Nat x d ∧ @Ne Nat op x ∧ @Ne Nat op d) (hs : (op == sysModules) = false) (hh : T.handed = true) (hp : T.parent = .none) (ho : oo.IsDictOf (SK w) []) (hop : T.ops = .ref op) :
    TyPost w (.ref x) [] [(x, instObj 94 d), (d, dictOf (tyEs w k0 k1 k2 k3 k4 k5 k6 k7 k8 k9 k10 k11 k12 k13 k14 k15 k16 k17 k18 k19 k20 T) 21), (op, oo)] :=
  ⟨x, d, op, _, oo, T, rfl, h.1, h.2.1, h.2.2, hs, hh, hp, ⟨_, _, _, _, _, _, _, _, _, _, _, _, _, _, _, _, _, _, _, _, _, rfl⟩, ho, hop, rfl⟩
section

theorem int_type_spec (w : World) (mean mg mb) (name low high : Value) (hnm : handedIn name = true) (hlo : handedIn low = true) (hhi : handedIn high = true) : Spec w mean mg mb 126 [name, low, high] 30 2000 [] (fun _ => True) (TyPost w) := by
  refine spec_enter [(Str.ofString "name", name), (Str.ofString "low", low), (Str.ofString "high", high)] (by k_is) (by k_is) (fun _ => BindsTo.of_eq rfl) (locs rfl) rfl rfl rfl (by decide) ?_
  intro dp un gd env outer base g L' h₁ s tk₀ hd hu hP G F N B X T
  clear hP
  k_with_none
  (try k_unmd); (try dsimp only); (try k_fold)
  focus
    iterate 11 ((try dsimp only); walk1)
    ((try dsimp only); refine type_use (by assumption) (by assumption) (by assumption) (by assumption) (by assumption) rfl rfl (by k_search 2) (by k_search 2) (by first | rfl | assumption) (by first | rfl | assumption) ?_; (intro _ _ _ _ _ _ _ _ _ _ _ _ _ _ _ _ _ _ _ _ _ _ _ _ _ _ _ _ _ N' y30 y31 y32 y33 y34 y35; (try dsimp only [tyEs, ent] at N'); revert N' y30 y31 y32 y33 y34 y35; intro _ _ _ _ _ _ _))
    iterate 17 ((try dsimp only); walk1)
    (k_unfold; (try dsimp only))
  rename TF => TT
  exact Done.new _ (by assumption) (by assumption) (tyPost { TT with low := low, high := high } (by assumption) (And.left ‹_ ∧ TT.handed = true›) (hand_int (And.right ‹_ ∧ TT.handed = true›) hlo hhi) (by assumption) (by assumption) (by assumption))
noncomputable def RecPost (w : World) (variant : Value) (dvs cvs : List Value) (r : Value) (_upd new : List (Addr × Obj)) : Prop :=
  ∃ x d op od oo T D1 D2 n1 n2, r = .ref x ∧ (@Ne Nat x d ∧ @Ne Nat op x ∧ @Ne Nat op d ∧ @Ne Nat D1 x ∧ @Ne Nat D1 d ∧ @Ne Nat D2 x ∧ @Ne Nat D2 d) ∧ (op == sysModules) = false ∧ T.handed = true ∧ T.parent = .none ∧ TyDict w T od ∧ oo.IsDictOf (SK w) [] ∧ T.ops = .ref op ∧ T.discs = .ref D1 ∧ T.comps = .ref D2 ∧ T.variant = variant ∧
    new = [(D2, listOf cvs.toArray n2), (D1, listOf dvs.toArray n1), (x, instObj 94 d), (d, od), (op, oo)]
theorem Done.rec' {s : Shared} {g h' : Heap} {L' : Addr} {m' : PySem.Str → Option Value} {a : Addr × Obj} {new : List (Addr × Obj)} {Post : Value → List (Addr × Obj) → List (Addr × Obj) → Prop} {v : Value} {tk : Nat} (F : Fr g L' h' m') (N : News g L' h' (a :: new)) (hp : Post v [] new) : Done s g L' [] Post v { s with heap := h', toks := tk } :=
  Done.new new F (fun p hp => N p (.tail _ hp)) hp
theorem recPost {w : World} {variant : Value} {dvs cvs : List Value} {x d op D1 D2 n1 n2 : Addr} {oo : Obj} (T : TF) {k0 k1 k2 k3 k4 k5 k6 k7 k8 k9 k10 k11 k12 k13 k14 k15 k16 k17 k18 k19 k20 : Tok} (h : @Ne Nat x d ∧ @Ne Nat op x ∧ @Ne Nat op d ∧ @Ne Nat D1 x ∧ @Ne Nat D1 d ∧ @Ne Nat D2 x ∧ @Ne Nat D2 d) (hs : (op == sysModules) = false) (hh : T.handed = true) (hp : T.parent = .none) (ho : oo.IsDictOf (SK w) []) (hop : T.ops = .ref op) (h1 : T.discs = .ref D1) (h2 : T.comps = .ref D2) (h3 : T.variant = variant) :
    RecPost w variant dvs cvs (.ref x) [] [(D2, listOf cvs.toArray n2), (D1, listOf dvs.toArray n1), (x, instObj 94 d), (d, dictOf (tyEs w k0 k1 k2 k3 k4 k5 k6 k7 k8 k9 k10 k11 k12 k13 k14 k15 k16 k17 k18 k19 k20 T) 21), (op, oo)] :=
  ⟨x, d, op, _, oo, T, D1, D2, n1, n2, rfl, h, hs, hh, hp, ⟨_, _, _, _, _, _, _, _, _, _, _, _, _, _, _, _, _, _, _, _, _, rfl⟩, ho, hop, h1, h2, h3, rfl⟩
theorem record_spec (w : World) (mean mg mb) (name variant : Value) (dl cl : Addr) (dvs cvs : List Value) (hdl : dvs.length ≤ 100) (hcl : cvs.length ≤ 100) (hnm : handedIn name = true) (hva : handedIn variant = true) :
    Spec w mean mg mb 133 [name, .ref dl, .ref cl, variant] 30 2000 [] (fun h => h.IsList dl dvs.toArray ∧ h.IsList cl cvs.toArray) (RecPost w variant dvs cvs) := by
  refine spec_enter [(Str.ofString "name", name), (Str.ofString "discriminants", .ref dl), (Str.ofString "components", .ref cl), (Str.ofString "variant", variant)] (by k_is) (by k_is) (fun _ => BindsTo.of_eq rfl) (locs rfl) rfl rfl rfl (by decide) ?_
  intro dp un gd env outer base g L' h₁ s tk₀ hd hu hP G F N B X T
  have hP1 : g.IsList dl dvs.toArray := gsub_list G hP.1 (by simp)
  have hP2 : g.IsList cl cvs.toArray := gsub_list G hP.2 (by simp)
  clear hP
  k_with_none
  (try k_unmd); (try dsimp only); (try k_fold)
  focus
    iterate 11 ((try dsimp only); walk1)
    ((try dsimp only); refine type_use (by assumption) (by assumption) (by assumption) (by assumption) (by assumption) rfl rfl (by k_search 2) (by k_search 2) (by first | rfl | assumption) (by first | rfl | assumption) ?_; (intro _ _ _ _ _ _ _ _ _ _ _ _ _ _ _ _ _ _ _ _ _ _ _ _ _ _ _ _ _ N' y30 y31 y32 y33 y34 y35; (try dsimp only [tyEs, ent] at N'); revert N' y30 y31 y32 y33 y34 y35; intro _ _ _ _ _ _ _))
    iterate 39 ((try dsimp only); walk1)
    ((try dsimp only); refine eq_empty (Heap.IsList.at (by assumption) (fun o e => Fr.keep (by assumption) _ o e)) (isListOf (News.get (by assumption) (by k_mem))) (by k_search 2) ?_)
    iterate 6 ((try dsimp only); walk1)
    (k_unfold; (try dsimp only))
  rename TF => TT
  refine Done.rec' (by assumption) (by assumption) (recPost { TT with discs := .ref _, comps := .ref _, variant := variant, constrained := .bool dvs.isEmpty } ?_ (And.left ‹_ ∧ TT.handed = true›) (hand_rec (And.right ‹_ ∧ TT.handed = true›) hva) (by assumption) (by assumption) (by assumption) rfl rfl rfl)
  (repeat' apply And.intro) <;> k_ne
end
section
open PySem PySem.W PyProof.Rows PySem.Calls PySem.Spec
set_option maxRecDepth 100000
set_option maxHeartbeats 4000000
noncomputable abbrev At (h : Heap) : Addr → Obj → Prop := fun a o => h.get? a = some o
noncomputable abbrev InL (l : List (Addr × Obj)) : Addr → Obj → Prop := fun a o => (a, o) ∈ l
noncomputable def TyH (w : World) (R : Addr → Obj → Prop) (x : Addr) (T : TF) : Prop :=
  ∃ d od op oo, R x (instObj 94 d) ∧ R d od ∧ TyDict w T od ∧ T.ops = .ref op ∧ R op oo ∧ oo.IsDictOf (SK w) [] ∧ (op == sysModules) = false ∧ T.handed = true
theorem TyH.mono {w : World} {R R' : Addr → Obj → Prop} {x : Addr} {T : TF} (H : TyH w R x T) (k : ∀ a o, R a o → R' a o) : TyH w R' x T := by
  refine byNo fun hno => ?_
  obtain ⟨d, od, op, oo, h1, h2, h3, h4, h5, h6⟩ := H
  refine hno ?_
  clear hno
  exact ⟨d, od, op, oo, k _ _ h1, k _ _ h2, h3, h4, k _ _ h5, h6⟩
theorem pg94' (w : World) : plainGet (hd.heap_1 w.params) 94 (Str.ofString "x") = true := by k_is
theorem pg94 (w : World) (name : PySem.Str) : plainGet (hd.heap_1 w.params) 94 name = true := pg94' w
theorem hd94 (w : World) : hasDictIn (hd.heap_1 w.params) 94 = true := by k_is
section
variable {w : World} {A : Around} {E : Value → Shared → Prop} {s : Shared} {h₀ : Heap} {L x : Addr} {m : PySem.Str → Option Value} {Q : Value → Shared → Prop} {expr : Bool} {T : TF}
theorem ty_get {name : PySem.Str} {v : Value} {attr : Option Value} (F : Fr h₀ L s.heap m) (X : (hd.heap_1 w.params).In h₀) (H : TyH w (At s.heap) x T) (hf : findIn (hd.heap_1 w.params) (.ref 94) name = some attr) (hn : noGet (hd.heap_1 w.params) attr = true)
    (hg : ∀ k0 k1 k2 k3 k4 k5 k6 k7 k8 k9 k10 k11 k12 k13 k14 k15 k16 k17 k18 k19 k20 : Tok, getL name (tyEs w k0 k1 k2 k3 k4 k5 k6 k7 k8 k9 k10 k11 k12 k13 k14 k15 k16 k17 k18 k19 k20 T) = some (some v)) (hv : T.handed = true → handedIn v = true) (h : Q v { s with toks := s.toks + 1 }) :
    wpAny (model PySem.Challenge.rw_pb0010_01.row.prog w) A (getAttr (.ref x) name expr) Q E s := by
  refine byNo fun hno => ?_
  obtain ⟨d, od, op, oo, h1, h2, ⟨k0, k1, k2, k3, k4, k5, k6, k7, k8, k9, k10, k11, k12, k13, k14, k15, k16, k17, k18, k19, k20, rfl⟩, h4, h5, h6, h7, h8⟩ := H
  refine hno ?_
  clear hno
  exact get_own F X ⟨h1, rfl, rfl, h2⟩ (pg94 w name) (hd94 w) hf hn (hg _ _ _ _ _ _ _ _ _ _ _ _ _ _ _ _ _ _ _ _ _) (hv h8) h
theorem tyf_kind (w : World) : findIn (hd.heap_1 w.params) (.ref 94) (Str.ofString "kind") = some none := by k_is
theorem tyg_kind (F : Fr h₀ L s.heap m) (X : (hd.heap_1 w.params).In h₀) (H : TyH w (At s.heap) x T) (h : Q T.kind { s with toks := s.toks + 1 }) :
    wpAny (model PySem.Challenge.rw_pb0010_01.row.prog w) A (getAttr (.ref x) (Str.ofString "kind") expr) Q E s :=
  ty_get F X H (tyf_kind w) rfl (fun _ _ _ _ _ _ _ _ _ _ _ _ _ _ _ _ _ _ _ _ _ => rfl) (fun h => by simp only [TF.handed, Bool.and_eq_true] at h; simp only [h]) h
theorem tyf_name (w : World) : findIn (hd.heap_1 w.params) (.ref 94) (Str.ofString "name") = some none := by k_is
theorem tyg_name (F : Fr h₀ L s.heap m) (X : (hd.heap_1 w.params).In h₀) (H : TyH w (At s.heap) x T) (h : Q T.name { s with toks := s.toks + 1 }) :
    wpAny (model PySem.Challenge.rw_pb0010_01.row.prog w) A (getAttr (.ref x) (Str.ofString "name") expr) Q E s :=
  ty_get F X H (tyf_name w) rfl (fun _ _ _ _ _ _ _ _ _ _ _ _ _ _ _ _ _ _ _ _ _ => rfl) (fun h => by simp only [TF.handed, Bool.and_eq_true] at h; simp only [h]) h
theorem tyf_number (w : World) : findIn (hd.heap_1 w.params) (.ref 94) (Str.ofString "number") = some none := by k_is
theorem tyg_number (F : Fr h₀ L s.heap m) (X : (hd.heap_1 w.params).In h₀) (H : TyH w (At s.heap) x T) (h : Q T.number { s with toks := s.toks + 1 }) :
    wpAny (model PySem.Challenge.rw_pb0010_01.row.prog w) A (getAttr (.ref x) (Str.ofString "number") expr) Q E s :=
  ty_get F X H (tyf_number w) rfl (fun _ _ _ _ _ _ _ _ _ _ _ _ _ _ _ _ _ _ _ _ _ => rfl) (fun h => by simp only [TF.handed, Bool.and_eq_true] at h; simp only [h]) h
theorem tyf_parent (w : World) : findIn (hd.heap_1 w.params) (.ref 94) (Str.ofString "parent") = some none := by k_is
theorem tyg_parent (F : Fr h₀ L s.heap m) (X : (hd.heap_1 w.params).In h₀) (H : TyH w (At s.heap) x T) (h : Q T.parent { s with toks := s.toks + 1 }) :
    wpAny (model PySem.Challenge.rw_pb0010_01.row.prog w) A (getAttr (.ref x) (Str.ofString "parent") expr) Q E s :=
  ty_get F X H (tyf_parent w) rfl (fun _ _ _ _ _ _ _ _ _ _ _ _ _ _ _ _ _ _ _ _ _ => rfl) (fun h => by simp only [TF.handed, Bool.and_eq_true] at h; simp only [h]) h
theorem tyf_low (w : World) : findIn (hd.heap_1 w.params) (.ref 94) (Str.ofString "low") = some none := by k_is
theorem tyg_low (F : Fr h₀ L s.heap m) (X : (hd.heap_1 w.params).In h₀) (H : TyH w (At s.heap) x T) (h : Q T.low { s with toks := s.toks + 1 }) :
    wpAny (model PySem.Challenge.rw_pb0010_01.row.prog w) A (getAttr (.ref x) (Str.ofString "low") expr) Q E s :=
  ty_get F X H (tyf_low w) rfl (fun _ _ _ _ _ _ _ _ _ _ _ _ _ _ _ _ _ _ _ _ _ => rfl) (fun h => by simp only [TF.handed, Bool.and_eq_true] at h; simp only [h]) h
theorem tyf_high (w : World) : findIn (hd.heap_1 w.params) (.ref 94) (Str.ofString "high") = some none := by k_is
theorem tyg_high (F : Fr h₀ L s.heap m) (X : (hd.heap_1 w.params).In h₀) (H : TyH w (At s.heap) x T) (h : Q T.high { s with toks := s.toks + 1 }) :
    wpAny (model PySem.Challenge.rw_pb0010_01.row.prog w) A (getAttr (.ref x) (Str.ofString "high") expr) Q E s :=
  ty_get F X H (tyf_high w) rfl (fun _ _ _ _ _ _ _ _ _ _ _ _ _ _ _ _ _ _ _ _ _ => rfl) (fun h => by simp only [TF.handed, Bool.and_eq_true] at h; simp only [h]) h
theorem tyf_literals (w : World) : findIn (hd.heap_1 w.params) (.ref 94) (Str.ofString "literals") = some none := by k_is
theorem tyg_literals (F : Fr h₀ L s.heap m) (X : (hd.heap_1 w.params).In h₀) (H : TyH w (At s.heap) x T) (h : Q T.literals { s with toks := s.toks + 1 }) :
    wpAny (model PySem.Challenge.rw_pb0010_01.row.prog w) A (getAttr (.ref x) (Str.ofString "literals") expr) Q E s :=
  ty_get F X H (tyf_literals w) rfl (fun _ _ _ _ _ _ _ _ _ _ _ _ _ _ _ _ _ _ _ _ _ => rfl) (fun h => by simp only [TF.handed, Bool.and_eq_true] at h; simp only [h]) h
theorem tyf_modulus (w : World) : findIn (hd.heap_1 w.params) (.ref 94) (Str.ofString "modulus") = some none := by k_is
theorem tyg_modulus (F : Fr h₀ L s.heap m) (X : (hd.heap_1 w.params).In h₀) (H : TyH w (At s.heap) x T) (h : Q T.modulus { s with toks := s.toks + 1 }) :
    wpAny (model PySem.Challenge.rw_pb0010_01.row.prog w) A (getAttr (.ref x) (Str.ofString "modulus") expr) Q E s :=
  ty_get F X H (tyf_modulus w) rfl (fun _ _ _ _ _ _ _ _ _ _ _ _ _ _ _ _ _ _ _ _ _ => rfl) (fun h => by simp only [TF.handed, Bool.and_eq_true] at h; simp only [h]) h
theorem tyf_small (w : World) : findIn (hd.heap_1 w.params) (.ref 94) (Str.ofString "small") = some none := by k_is
theorem tyg_small (F : Fr h₀ L s.heap m) (X : (hd.heap_1 w.params).In h₀) (H : TyH w (At s.heap) x T) (h : Q T.small { s with toks := s.toks + 1 }) :
    wpAny (model PySem.Challenge.rw_pb0010_01.row.prog w) A (getAttr (.ref x) (Str.ofString "small") expr) Q E s :=
  ty_get F X H (tyf_small w) rfl (fun _ _ _ _ _ _ _ _ _ _ _ _ _ _ _ _ _ _ _ _ _ => rfl) (fun h => by simp only [TF.handed, Bool.and_eq_true] at h; simp only [h]) h
theorem tyf_index (w : World) : findIn (hd.heap_1 w.params) (.ref 94) (Str.ofString "index") = some none := by k_is
theorem tyg_index (F : Fr h₀ L s.heap m) (X : (hd.heap_1 w.params).In h₀) (H : TyH w (At s.heap) x T) (h : Q T.index { s with toks := s.toks + 1 }) :
    wpAny (model PySem.Challenge.rw_pb0010_01.row.prog w) A (getAttr (.ref x) (Str.ofString "index") expr) Q E s :=
  ty_get F X H (tyf_index w) rfl (fun _ _ _ _ _ _ _ _ _ _ _ _ _ _ _ _ _ _ _ _ _ => rfl) (fun h => by simp only [TF.handed, Bool.and_eq_true] at h; simp only [h]) h
theorem tyf_component (w : World) : findIn (hd.heap_1 w.params) (.ref 94) (Str.ofString "component") = some none := by k_is
theorem tyg_component (F : Fr h₀ L s.heap m) (X : (hd.heap_1 w.params).In h₀) (H : TyH w (At s.heap) x T) (h : Q T.component { s with toks := s.toks + 1 }) :
    wpAny (model PySem.Challenge.rw_pb0010_01.row.prog w) A (getAttr (.ref x) (Str.ofString "component") expr) Q E s :=
  ty_get F X H (tyf_component w) rfl (fun _ _ _ _ _ _ _ _ _ _ _ _ _ _ _ _ _ _ _ _ _ => rfl) (fun h => by simp only [TF.handed, Bool.and_eq_true] at h; simp only [h]) h
theorem tyf_constrained (w : World) : findIn (hd.heap_1 w.params) (.ref 94) (Str.ofString "is_constrained") = some none := by k_is
theorem tyg_constrained (F : Fr h₀ L s.heap m) (X : (hd.heap_1 w.params).In h₀) (H : TyH w (At s.heap) x T) (h : Q T.constrained { s with toks := s.toks + 1 }) :
    wpAny (model PySem.Challenge.rw_pb0010_01.row.prog w) A (getAttr (.ref x) (Str.ofString "is_constrained") expr) Q E s :=
  ty_get F X H (tyf_constrained w) rfl (fun _ _ _ _ _ _ _ _ _ _ _ _ _ _ _ _ _ _ _ _ _ => rfl) (fun h => by simp only [TF.handed, Bool.and_eq_true] at h; simp only [h]) h
theorem tyf_discs (w : World) : findIn (hd.heap_1 w.params) (.ref 94) (Str.ofString "discriminants") = some none := by k_is
theorem tyg_discs (F : Fr h₀ L s.heap m) (X : (hd.heap_1 w.params).In h₀) (H : TyH w (At s.heap) x T) (h : Q T.discs { s with toks := s.toks + 1 }) :
    wpAny (model PySem.Challenge.rw_pb0010_01.row.prog w) A (getAttr (.ref x) (Str.ofString "discriminants") expr) Q E s :=
  ty_get F X H (tyf_discs w) rfl (fun _ _ _ _ _ _ _ _ _ _ _ _ _ _ _ _ _ _ _ _ _ => rfl) (fun h => by simp only [TF.handed, Bool.and_eq_true] at h; simp only [h]) h
theorem tyf_comps (w : World) : findIn (hd.heap_1 w.params) (.ref 94) (Str.ofString "components") = some none := by k_is
theorem tyg_comps (F : Fr h₀ L s.heap m) (X : (hd.heap_1 w.params).In h₀) (H : TyH w (At s.heap) x T) (h : Q T.comps { s with toks := s.toks + 1 }) :
    wpAny (model PySem.Challenge.rw_pb0010_01.row.prog w) A (getAttr (.ref x) (Str.ofString "components") expr) Q E s :=
  ty_get F X H (tyf_comps w) rfl (fun _ _ _ _ _ _ _ _ _ _ _ _ _ _ _ _ _ _ _ _ _ => rfl) (fun h => by simp only [TF.handed, Bool.and_eq_true] at h; simp only [h]) h
theorem tyf_variant (w : World) : findIn (hd.heap_1 w.params) (.ref 94) (Str.ofString "variant") = some none := by k_is
theorem tyg_variant (F : Fr h₀ L s.heap m) (X : (hd.heap_1 w.params).In h₀) (H : TyH w (At s.heap) x T) (h : Q T.variant { s with toks := s.toks + 1 }) :
    wpAny (model PySem.Challenge.rw_pb0010_01.row.prog w) A (getAttr (.ref x) (Str.ofString "variant") expr) Q E s :=
  ty_get F X H (tyf_variant w) rfl (fun _ _ _ _ _ _ _ _ _ _ _ _ _ _ _ _ _ _ _ _ _ => rfl) (fun h => by simp only [TF.handed, Bool.and_eq_true] at h; simp only [h]) h
theorem tyf_designated (w : World) : findIn (hd.heap_1 w.params) (.ref 94) (Str.ofString "designated") = some none := by k_is
theorem tyg_designated (F : Fr h₀ L s.heap m) (X : (hd.heap_1 w.params).In h₀) (H : TyH w (At s.heap) x T) (h : Q T.designated { s with toks := s.toks + 1 }) :
    wpAny (model PySem.Challenge.rw_pb0010_01.row.prog w) A (getAttr (.ref x) (Str.ofString "designated") expr) Q E s :=
  ty_get F X H (tyf_designated w) rfl (fun _ _ _ _ _ _ _ _ _ _ _ _ _ _ _ _ _ _ _ _ _ => rfl) (fun h => by simp only [TF.handed, Bool.and_eq_true] at h; simp only [h]) h
theorem tyf_tagged (w : World) : findIn (hd.heap_1 w.params) (.ref 94) (Str.ofString "is_tagged") = some none := by k_is
theorem tyg_tagged (F : Fr h₀ L s.heap m) (X : (hd.heap_1 w.params).In h₀) (H : TyH w (At s.heap) x T) (h : Q T.tagged { s with toks := s.toks + 1 }) :
    wpAny (model PySem.Challenge.rw_pb0010_01.row.prog w) A (getAttr (.ref x) (Str.ofString "is_tagged") expr) Q E s :=
  ty_get F X H (tyf_tagged w) rfl (fun _ _ _ _ _ _ _ _ _ _ _ _ _ _ _ _ _ _ _ _ _ => rfl) (fun h => by simp only [TF.handed, Bool.and_eq_true] at h; simp only [h]) h
theorem tyf_wide (w : World) : findIn (hd.heap_1 w.params) (.ref 94) (Str.ofString "wide") = some none := by k_is
theorem tyg_wide (F : Fr h₀ L s.heap m) (X : (hd.heap_1 w.params).In h₀) (H : TyH w (At s.heap) x T) (h : Q T.wide { s with toks := s.toks + 1 }) :
    wpAny (model PySem.Challenge.rw_pb0010_01.row.prog w) A (getAttr (.ref x) (Str.ofString "wide") expr) Q E s :=
  ty_get F X H (tyf_wide w) rfl (fun _ _ _ _ _ _ _ _ _ _ _ _ _ _ _ _ _ _ _ _ _ => rfl) (fun h => by simp only [TF.handed, Bool.and_eq_true] at h; simp only [h]) h
theorem tyf_limited (w : World) : findIn (hd.heap_1 w.params) (.ref 94) (Str.ofString "is_limited") = some none := by k_is
theorem tyg_limited (F : Fr h₀ L s.heap m) (X : (hd.heap_1 w.params).In h₀) (H : TyH w (At s.heap) x T) (h : Q T.limited { s with toks := s.toks + 1 }) :
    wpAny (model PySem.Challenge.rw_pb0010_01.row.prog w) A (getAttr (.ref x) (Str.ofString "is_limited") expr) Q E s :=
  ty_get F X H (tyf_limited w) rfl (fun _ _ _ _ _ _ _ _ _ _ _ _ _ _ _ _ _ _ _ _ _ => rfl) (fun h => by simp only [TF.handed, Bool.and_eq_true] at h; simp only [h]) h
theorem tyf_priv (w : World) : findIn (hd.heap_1 w.params) (.ref 94) (Str.ofString "is_private") = some none := by k_is
theorem tyg_priv (F : Fr h₀ L s.heap m) (X : (hd.heap_1 w.params).In h₀) (H : TyH w (At s.heap) x T) (h : Q T.priv { s with toks := s.toks + 1 }) :
    wpAny (model PySem.Challenge.rw_pb0010_01.row.prog w) A (getAttr (.ref x) (Str.ofString "is_private") expr) Q E s :=
  ty_get F X H (tyf_priv w) rfl (fun _ _ _ _ _ _ _ _ _ _ _ _ _ _ _ _ _ _ _ _ _ => rfl) (fun h => by simp only [TF.handed, Bool.and_eq_true] at h; simp only [h]) h
theorem tyf_ops (w : World) : findIn (hd.heap_1 w.params) (.ref 94) (Str.ofString "operations") = some none := by k_is
theorem tyg_ops (F : Fr h₀ L s.heap m) (X : (hd.heap_1 w.params).In h₀) (H : TyH w (At s.heap) x T) (h : Q T.ops { s with toks := s.toks + 1 }) :
    wpAny (model PySem.Challenge.rw_pb0010_01.row.prog w) A (getAttr (.ref x) (Str.ofString "operations") expr) Q E s :=
  ty_get F X H (tyf_ops w) rfl (fun _ _ _ _ _ _ _ _ _ _ _ _ _ _ _ _ _ _ _ _ _ => rfl) (fun h => by simp only [TF.handed, Bool.and_eq_true] at h; simp only [h]) h
end
end
set_option maxHeartbeats 4000000
theorem tyE_kind {w : World} {A : Around} {E : Value → Shared → Prop} {s : Shared} {h₀ : Heap} {L x : Addr} {m : PySem.Str → Option Value} {Q : Value → Shared → Prop} {expr : Bool} {T : TF} {v : Value} (F : Fr h₀ L s.heap m) (X : (hd.heap_1 w.params).In h₀) (H : TyH w (At s.heap) x T) (e : T.kind = v) (h : Q v { s with toks := s.toks + 1 }) :
    wpAny (model PySem.Challenge.rw_pb0010_01.row.prog w) A (getAttr (.ref x) (Str.ofString "kind") expr) Q E s := tyg_kind F X H (e ▸ h)
theorem tyE_name {w : World} {A : Around} {E : Value → Shared → Prop} {s : Shared} {h₀ : Heap} {L x : Addr} {m : PySem.Str → Option Value} {Q : Value → Shared → Prop} {expr : Bool} {T : TF} {v : Value} (F : Fr h₀ L s.heap m) (X : (hd.heap_1 w.params).In h₀) (H : TyH w (At s.heap) x T) (e : T.name = v) (h : Q v { s with toks := s.toks + 1 }) :
    wpAny (model PySem.Challenge.rw_pb0010_01.row.prog w) A (getAttr (.ref x) (Str.ofString "name") expr) Q E s := tyg_name F X H (e ▸ h)
theorem tyE_number {w : World} {A : Around} {E : Value → Shared → Prop} {s : Shared} {h₀ : Heap} {L x : Addr} {m : PySem.Str → Option Value} {Q : Value → Shared → Prop} {expr : Bool} {T : TF} {v : Value} (F : Fr h₀ L s.heap m) (X : (hd.heap_1 w.params).In h₀) (H : TyH w (At s.heap) x T) (e : T.number = v) (h : Q v { s with toks := s.toks + 1 }) :
    wpAny (model PySem.Challenge.rw_pb0010_01.row.prog w) A (getAttr (.ref x) (Str.ofString "number") expr) Q E s := tyg_number F X H (e ▸ h)
theorem tyE_parent {w : World} {A : Around} {E : Value → Shared → Prop} {s : Shared} {h₀ : Heap} {L x : Addr} {m : PySem.Str → Option Value} {Q : Value → Shared → Prop} {expr : Bool} {T : TF} {v : Value} (F : Fr h₀ L s.heap m) (X : (hd.heap_1 w.params).In h₀) (H : TyH w (At s.heap) x T) (e : T.parent = v) (h : Q v { s with toks := s.toks + 1 }) :
    wpAny (model PySem.Challenge.rw_pb0010_01.row.prog w) A (getAttr (.ref x) (Str.ofString "parent") expr) Q E s := tyg_parent F X H (e ▸ h)
theorem tyE_low {w : World} {A : Around} {E : Value → Shared → Prop} {s : Shared} {h₀ : Heap} {L x : Addr} {m : PySem.Str → Option Value} {Q : Value → Shared → Prop} {expr : Bool} {T : TF} {v : Value} (F : Fr h₀ L s.heap m) (X : (hd.heap_1 w.params).In h₀) (H : TyH w (At s.heap) x T) (e : T.low = v) (h : Q v { s with toks := s.toks + 1 }) :
    wpAny (model PySem.Challenge.rw_pb0010_01.row.prog w) A (getAttr (.ref x) (Str.ofString "low") expr) Q E s := tyg_low F X H (e ▸ h)
theorem tyE_high {w : World} {A : Around} {E : Value → Shared → Prop} {s : Shared} {h₀ : Heap} {L x : Addr} {m : PySem.Str → Option Value} {Q : Value → Shared → Prop} {expr : Bool} {T : TF} {v : Value} (F : Fr h₀ L s.heap m) (X : (hd.heap_1 w.params).In h₀) (H : TyH w (At s.heap) x T) (e : T.high = v) (h : Q v { s with toks := s.toks + 1 }) :
    wpAny (model PySem.Challenge.rw_pb0010_01.row.prog w) A (getAttr (.ref x) (Str.ofString "high") expr) Q E s := tyg_high F X H (e ▸ h)
theorem tyE_literals {w : World} {A : Around} {E : Value → Shared → Prop} {s : Shared} {h₀ : Heap} {L x : Addr} {m : PySem.Str → Option Value} {Q : Value → Shared → Prop} {expr : Bool} {T : TF} {v : Value} (F : Fr h₀ L s.heap m) (X : (hd.heap_1 w.params).In h₀) (H : TyH w (At s.heap) x T) (e : T.literals = v) (h : Q v { s with toks := s.toks + 1 }) :
    wpAny (model PySem.Challenge.rw_pb0010_01.row.prog w) A (getAttr (.ref x) (Str.ofString "literals") expr) Q E s := tyg_literals F X H (e ▸ h)
theorem tyE_modulus {w : World} {A : Around} {E : Value → Shared → Prop} {s : Shared} {h₀ : Heap} {L x : Addr} {m : PySem.Str → Option Value} {Q : Value → Shared → Prop} {expr : Bool} {T : TF} {v : Value} (F : Fr h₀ L s.heap m) (X : (hd.heap_1 w.params).In h₀) (H : TyH w (At s.heap) x T) (e : T.modulus = v) (h : Q v { s with toks := s.toks + 1 }) :
    wpAny (model PySem.Challenge.rw_pb0010_01.row.prog w) A (getAttr (.ref x) (Str.ofString "modulus") expr) Q E s := tyg_modulus F X H (e ▸ h)
theorem tyE_small {w : World} {A : Around} {E : Value → Shared → Prop} {s : Shared} {h₀ : Heap} {L x : Addr} {m : PySem.Str → Option Value} {Q : Value → Shared → Prop} {expr : Bool} {T : TF} {v : Value} (F : Fr h₀ L s.heap m) (X : (hd.heap_1 w.params).In h₀) (H : TyH w (At s.heap) x T) (e : T.small = v) (h : Q v { s with toks := s.toks + 1 }) :
    wpAny (model PySem.Challenge.rw_pb0010_01.row.prog w) A (getAttr (.ref x) (Str.ofString "small") expr) Q E s := tyg_small F X H (e ▸ h)
theorem tyE_index {w : World} {A : Around} {E : Value → Shared → Prop} {s : Shared} {h₀ : Heap} {L x : Addr} {m : PySem.Str → Option Value} {Q : Value → Shared → Prop} {expr : Bool} {T : TF} {v : Value} (F : Fr h₀ L s.heap m) (X : (hd.heap_1 w.params).In h₀) (H : TyH w (At s.heap) x T) (e : T.index = v) (h : Q v { s with toks := s.toks + 1 }) :
    wpAny (model PySem.Challenge.rw_pb0010_01.row.prog w) A (getAttr (.ref x) (Str.ofString "index") expr) Q E s := tyg_index F X H (e ▸ h)
theorem tyE_component {w : World} {A : Around} {E : Value → Shared → Prop} {s : Shared} {h₀ : Heap} {L x : Addr} {m : PySem.Str → Option Value} {Q : Value → Shared → Prop} {expr : Bool} {T : TF} {v : Value} (F : Fr h₀ L s.heap m) (X : (hd.heap_1 w.params).In h₀) (H : TyH w (At s.heap) x T) (e : T.component = v) (h : Q v { s with toks := s.toks + 1 }) :
    wpAny (model PySem.Challenge.rw_pb0010_01.row.prog w) A (getAttr (.ref x) (Str.ofString "component") expr) Q E s := tyg_component F X H (e ▸ h)
theorem tyE_constrained {w : World} {A : Around} {E : Value → Shared → Prop} {s : Shared} {h₀ : Heap} {L x : Addr} {m : PySem.Str → Option Value} {Q : Value → Shared → Prop} {expr : Bool} {T : TF} {v : Value} (F : Fr h₀ L s.heap m) (X : (hd.heap_1 w.params).In h₀) (H : TyH w (At s.heap) x T) (e : T.constrained = v) (h : Q v { s with toks := s.toks + 1 }) :
    wpAny (model PySem.Challenge.rw_pb0010_01.row.prog w) A (getAttr (.ref x) (Str.ofString "is_constrained") expr) Q E s := tyg_constrained F X H (e ▸ h)
theorem tyE_discs {w : World} {A : Around} {E : Value → Shared → Prop} {s : Shared} {h₀ : Heap} {L x : Addr} {m : PySem.Str → Option Value} {Q : Value → Shared → Prop} {expr : Bool} {T : TF} {v : Value} (F : Fr h₀ L s.heap m) (X : (hd.heap_1 w.params).In h₀) (H : TyH w (At s.heap) x T) (e : T.discs = v) (h : Q v { s with toks := s.toks + 1 }) :
    wpAny (model PySem.Challenge.rw_pb0010_01.row.prog w) A (getAttr (.ref x) (Str.ofString "discriminants") expr) Q E s := tyg_discs F X H (e ▸ h)
theorem tyE_comps {w : World} {A : Around} {E : Value → Shared → Prop} {s : Shared} {h₀ : Heap} {L x : Addr} {m : PySem.Str → Option Value} {Q : Value → Shared → Prop} {expr : Bool} {T : TF} {v : Value} (F : Fr h₀ L s.heap m) (X : (hd.heap_1 w.params).In h₀) (H : TyH w (At s.heap) x T) (e : T.comps = v) (h : Q v { s with toks := s.toks + 1 }) :
    wpAny (model PySem.Challenge.rw_pb0010_01.row.prog w) A (getAttr (.ref x) (Str.ofString "components") expr) Q E s := tyg_comps F X H (e ▸ h)
theorem tyE_variant {w : World} {A : Around} {E : Value → Shared → Prop} {s : Shared} {h₀ : Heap} {L x : Addr} {m : PySem.Str → Option Value} {Q : Value → Shared → Prop} {expr : Bool} {T : TF} {v : Value} (F : Fr h₀ L s.heap m) (X : (hd.heap_1 w.params).In h₀) (H : TyH w (At s.heap) x T) (e : T.variant = v) (h : Q v { s with toks := s.toks + 1 }) :
    wpAny (model PySem.Challenge.rw_pb0010_01.row.prog w) A (getAttr (.ref x) (Str.ofString "variant") expr) Q E s := tyg_variant F X H (e ▸ h)
theorem tyE_designated {w : World} {A : Around} {E : Value → Shared → Prop} {s : Shared} {h₀ : Heap} {L x : Addr} {m : PySem.Str → Option Value} {Q : Value → Shared → Prop} {expr : Bool} {T : TF} {v : Value} (F : Fr h₀ L s.heap m) (X : (hd.heap_1 w.params).In h₀) (H : TyH w (At s.heap) x T) (e : T.designated = v) (h : Q v { s with toks := s.toks + 1 }) :
    wpAny (model PySem.Challenge.rw_pb0010_01.row.prog w) A (getAttr (.ref x) (Str.ofString "designated") expr) Q E s := tyg_designated F X H (e ▸ h)
theorem tyE_tagged {w : World} {A : Around} {E : Value → Shared → Prop} {s : Shared} {h₀ : Heap} {L x : Addr} {m : PySem.Str → Option Value} {Q : Value → Shared → Prop} {expr : Bool} {T : TF} {v : Value} (F : Fr h₀ L s.heap m) (X : (hd.heap_1 w.params).In h₀) (H : TyH w (At s.heap) x T) (e : T.tagged = v) (h : Q v { s with toks := s.toks + 1 }) :
    wpAny (model PySem.Challenge.rw_pb0010_01.row.prog w) A (getAttr (.ref x) (Str.ofString "is_tagged") expr) Q E s := tyg_tagged F X H (e ▸ h)
theorem tyE_wide {w : World} {A : Around} {E : Value → Shared → Prop} {s : Shared} {h₀ : Heap} {L x : Addr} {m : PySem.Str → Option Value} {Q : Value → Shared → Prop} {expr : Bool} {T : TF} {v : Value} (F : Fr h₀ L s.heap m) (X : (hd.heap_1 w.params).In h₀) (H : TyH w (At s.heap) x T) (e : T.wide = v) (h : Q v { s with toks := s.toks + 1 }) :
    wpAny (model PySem.Challenge.rw_pb0010_01.row.prog w) A (getAttr (.ref x) (Str.ofString "wide") expr) Q E s := tyg_wide F X H (e ▸ h)
theorem tyE_limited {w : World} {A : Around} {E : Value → Shared → Prop} {s : Shared} {h₀ : Heap} {L x : Addr} {m : PySem.Str → Option Value} {Q : Value → Shared → Prop} {expr : Bool} {T : TF} {v : Value} (F : Fr h₀ L s.heap m) (X : (hd.heap_1 w.params).In h₀) (H : TyH w (At s.heap) x T) (e : T.limited = v) (h : Q v { s with toks := s.toks + 1 }) :
    wpAny (model PySem.Challenge.rw_pb0010_01.row.prog w) A (getAttr (.ref x) (Str.ofString "is_limited") expr) Q E s := tyg_limited F X H (e ▸ h)
theorem tyE_priv {w : World} {A : Around} {E : Value → Shared → Prop} {s : Shared} {h₀ : Heap} {L x : Addr} {m : PySem.Str → Option Value} {Q : Value → Shared → Prop} {expr : Bool} {T : TF} {v : Value} (F : Fr h₀ L s.heap m) (X : (hd.heap_1 w.params).In h₀) (H : TyH w (At s.heap) x T) (e : T.priv = v) (h : Q v { s with toks := s.toks + 1 }) :
    wpAny (model PySem.Challenge.rw_pb0010_01.row.prog w) A (getAttr (.ref x) (Str.ofString "is_private") expr) Q E s := tyg_priv F X H (e ▸ h)
theorem tyE_ops {w : World} {A : Around} {E : Value → Shared → Prop} {s : Shared} {h₀ : Heap} {L x : Addr} {m : PySem.Str → Option Value} {Q : Value → Shared → Prop} {expr : Bool} {T : TF} {v : Value} (F : Fr h₀ L s.heap m) (X : (hd.heap_1 w.params).In h₀) (H : TyH w (At s.heap) x T) (e : T.ops = v) (h : Q v { s with toks := s.toks + 1 }) :
    wpAny (model PySem.Challenge.rw_pb0010_01.row.prog w) A (getAttr (.ref x) (Str.ofString "operations") expr) Q E s := tyg_ops F X H (e ▸ h)

theorem dict_copy0 {w : World} {A : Around} {E : Value → Shared → Prop} {s : Shared} {h₀ : Heap} {L po : Addr} {m : PySem.Str → Option Value} {Q : Value → Shared → Prop} {news : List (Addr × Obj)} {oo : Obj} {mean : ExcName → Option Value} {mg mb : Str → Option Value}
    (F : Fr h₀ L s.heap m) (N : News h₀ L s.heap news) (T : TP mean mg mb h₀) (ho : s.heap.get? po = some oo) (hd : oo.IsDictOf (SK w) []) (hs : (po == sysModules) = false)
    (h : ∀ D o' h', Fr h₀ L h' m → News h₀ L h' ((D, o') :: news) → (∀ q ∈ news, @LT.lt Nat _ q.1 D) → o'.IsDictOf (SK w) [] ∧ (D == sysModules) = false → Q (.ref D) { s with heap := h' }) :
    wpAny (model PySem.Challenge.rw_pb0010_01.row.prog w) A (call (.type "dict") [.ref po]) Q E s := by
  refine kt_dict_K (knd := SK w) (enc := PyData.str) (D := []) F N (Top.nolimit T) ⟨hs, [], Heap.dictOf_iff.mpr ⟨oo, ho, hd⟩, .nil⟩ (by decide) fun d h' o kvs F' N' lt lo hd' hf' => ?_
  cases hf'
  exact h d o h' F' N' lt ⟨hd', lo⟩
noncomputable def DerPost (w : World) (p : Addr) (T : TF) (r : Value) (_upd new : List (Addr × Obj)) : Prop :=
  ∃ x d op od oo T', r = .ref x ∧ (@Ne Nat x d ∧ @Ne Nat op x ∧ @Ne Nat op d) ∧ (op == sysModules) = false ∧ T'.handed = true ∧ T'.parent = .ref p ∧ TyDict w T' od ∧ oo.IsDictOf (SK w) [] ∧ T'.ops = .ref op ∧ T'.discs = T.discs ∧ T'.comps = T.comps ∧ T'.variant = T.variant ∧ T'.tagged = T.tagged ∧
    new = [(op, oo), (x, instObj 94 d), (d, od)]
noncomputable abbrev derT (TT T : TF) (p D : Addr) : TF := { TT with parent := .ref p, low := T.low, high := T.high, literals := T.literals, modulus := T.modulus, small := T.small, index := T.index, component := T.component, constrained := T.constrained, discs := T.discs, comps := T.comps, variant := T.variant, designated := T.designated, tagged := T.tagged, limited := T.limited, ops := .ref D }
theorem hand_der {TT T : TF} {p D : Addr} (h : TT.handed = true) (h1 : T.handed = true) : (derT TT T p D).handed = true := by
  simp only [TF.handed, Bool.and_eq_true, hRef] at h h1 ⊢
  simp only [h, h1, and_self]
theorem Done.der {s : Shared} {g h' : Heap} {L' : Addr} {m' : PySem.Str → Option Value} {a b c e : Addr × Obj} {Post : Value → List (Addr × Obj) → List (Addr × Obj) → Prop} {v : Value} {tk : Nat} (F : Fr g L' h' m') (N : News g L' h' [a, b, c, e]) (hp : Post v [] [a, b, c]) : Done s g L' [] Post v { s with heap := h', toks := tk } :=
  Done.new [a, b, c] F (fun p hp => N p (by simp only [List.mem_cons, List.not_mem_nil, or_false] at hp ⊢; rcases hp with h | h | h <;> simp [h])) hp
theorem derPost {w : World} {p x d D : Addr} {oo : Obj} (TT T : TF) {k0 k1 k2 k3 k4 k5 k6 k7 k8 k9 k10 k11 k12 k13 k14 k15 k16 k17 k18 k19 k20 : Tok} (hh : TT.handed = true) (h1 : T.handed = true) (ho : oo.IsDictOf (SK w) [] ∧ (D == sysModules) = false) (hne : @Ne Nat x d ∧ @Ne Nat D x ∧ @Ne Nat D d) :
    DerPost w p T (.ref x) [] [(D, oo), (x, instObj 94 d), (d, dictOf (tyEs w k0 k1 k2 k3 k4 k5 k6 k7 k8 k9 k10 k11 k12 k13 k14 k15 k16 k17 k18 k19 k20 (derT TT T p D)) 21)] :=
  ⟨x, d, D, _, oo, derT TT T p D, rfl, hne, ho.2, hand_der hh h1, rfl, ⟨_, _, _, _, _, _, _, _, _, _, _, _, _, _, _, _, _, _, _, _, _, rfl⟩, ho.1, rfl, rfl, rfl, rfl, rfl, rfl⟩
section

theorem derived_spec (w : World) (mean mg mb) (p : Addr) (T : TF) (name : Value) (hnm : handedIn name = true) :
    Spec w mean mg mb 140 [.ref p, name] 30 2000 [] (fun h => TyH w (At h) p T) (DerPost w p T) := by
  refine spec_enter [(Str.ofString "parent", .ref p), (Str.ofString "name", name)] (by k_is) (by k_is) (fun _ => BindsTo.of_eq rfl) (locs rfl) rfl rfl rfl (by decide) ?_
  intro dp un gd env outer base g L' h₁ s tk₀ hd hu hP G F N B X Tp
  have HT : TyH w (At g) p T := hP.mono fun a o e => G a o e (by simp)
  clear hP
  refine byNo fun hno => ?_
  obtain ⟨pd, pod, pop, poo, q1, q2, q3, q4, q5, q6, q7, q8⟩ := id HT
  refine hno ?_
  clear hno
  have hkind : handedIn T.kind = true := by simp only [TF.handed, Bool.and_eq_true] at q8; simp only [q8]
  clear q1 q2 q3
  have q5' : g.get? pop = some poo := q5
  clear q5
  k_with_none
  (try k_unmd); (try dsimp only); (try k_fold)
  focus
    iterate 8 ((try dsimp only); walk1)
    ((try dsimp only); first | refine tyE_kind (by assumption) (by assumption) (TyH.mono (by assumption) (fun a o e => Fr.keep (by assumption) a o e)) (by assumption) ?_ | refine tyg_kind (by assumption) (by assumption) (TyH.mono (by assumption) (fun a o e => Fr.keep (by assumption) a o e)) ?_)
    iterate 4 ((try dsimp only); walk1)
    ((try dsimp only); refine type_use (by assumption) (by assumption) (by assumption) (by assumption) (by assumption) rfl rfl (by k_search 2) (by k_search 2) (by first | rfl | assumption) (by first | rfl | assumption) ?_; (intro _ _ _ _ _ _ _ _ _ _ _ _ _ _ _ _ _ _ _ _ _ _ _ _ _ _ _ _ _ N' y30 y31 y32 y33 y34 y35; (try dsimp only [tyEs, ent] at N'); revert N' y30 y31 y32 y33 y34 y35; intro _ _ _ _ _ _ _))
    iterate 12 ((try dsimp only); walk1)
    ((try dsimp only); first | refine tyE_low (by assumption) (by assumption) (TyH.mono (by assumption) (fun a o e => Fr.keep (by assumption) a o e)) (by assumption) ?_ | refine tyg_low (by assumption) (by assumption) (TyH.mono (by assumption) (fun a o e => Fr.keep (by assumption) a o e)) ?_)
    iterate 7 ((try dsimp only); walk1)
    ((try dsimp only); first | refine tyE_high (by assumption) (by assumption) (TyH.mono (by assumption) (fun a o e => Fr.keep (by assumption) a o e)) (by assumption) ?_ | refine tyg_high (by assumption) (by assumption) (TyH.mono (by assumption) (fun a o e => Fr.keep (by assumption) a o e)) ?_)
    iterate 7 ((try dsimp only); walk1)
    ((try dsimp only); first | refine tyE_literals (by assumption) (by assumption) (TyH.mono (by assumption) (fun a o e => Fr.keep (by assumption) a o e)) (by assumption) ?_ | refine tyg_literals (by assumption) (by assumption) (TyH.mono (by assumption) (fun a o e => Fr.keep (by assumption) a o e)) ?_)
    iterate 7 ((try dsimp only); walk1)
    ((try dsimp only); first | refine tyE_modulus (by assumption) (by assumption) (TyH.mono (by assumption) (fun a o e => Fr.keep (by assumption) a o e)) (by assumption) ?_ | refine tyg_modulus (by assumption) (by assumption) (TyH.mono (by assumption) (fun a o e => Fr.keep (by assumption) a o e)) ?_)
    iterate 7 ((try dsimp only); walk1)
    ((try dsimp only); first | refine tyE_small (by assumption) (by assumption) (TyH.mono (by assumption) (fun a o e => Fr.keep (by assumption) a o e)) (by assumption) ?_ | refine tyg_small (by assumption) (by assumption) (TyH.mono (by assumption) (fun a o e => Fr.keep (by assumption) a o e)) ?_)
    iterate 7 ((try dsimp only); walk1)
    ((try dsimp only); first | refine tyE_index (by assumption) (by assumption) (TyH.mono (by assumption) (fun a o e => Fr.keep (by assumption) a o e)) (by assumption) ?_ | refine tyg_index (by assumption) (by assumption) (TyH.mono (by assumption) (fun a o e => Fr.keep (by assumption) a o e)) ?_)
    iterate 7 ((try dsimp only); walk1)
    ((try dsimp only); first | refine tyE_component (by assumption) (by assumption) (TyH.mono (by assumption) (fun a o e => Fr.keep (by assumption) a o e)) (by assumption) ?_ | refine tyg_component (by assumption) (by assumption) (TyH.mono (by assumption) (fun a o e => Fr.keep (by assumption) a o e)) ?_)
    iterate 7 ((try dsimp only); walk1)
    ((try dsimp only); first | refine tyE_constrained (by assumption) (by assumption) (TyH.mono (by assumption) (fun a o e => Fr.keep (by assumption) a o e)) (by assumption) ?_ | refine tyg_constrained (by assumption) (by assumption) (TyH.mono (by assumption) (fun a o e => Fr.keep (by assumption) a o e)) ?_)
    iterate 7 ((try dsimp only); walk1)
    ((try dsimp only); first | refine tyE_discs (by assumption) (by assumption) (TyH.mono (by assumption) (fun a o e => Fr.keep (by assumption) a o e)) (by assumption) ?_ | refine tyg_discs (by assumption) (by assumption) (TyH.mono (by assumption) (fun a o e => Fr.keep (by assumption) a o e)) ?_)
    iterate 7 ((try dsimp only); walk1)
    ((try dsimp only); first | refine tyE_comps (by assumption) (by assumption) (TyH.mono (by assumption) (fun a o e => Fr.keep (by assumption) a o e)) (by assumption) ?_ | refine tyg_comps (by assumption) (by assumption) (TyH.mono (by assumption) (fun a o e => Fr.keep (by assumption) a o e)) ?_)
    iterate 7 ((try dsimp only); walk1)
    ((try dsimp only); first | refine tyE_variant (by assumption) (by assumption) (TyH.mono (by assumption) (fun a o e => Fr.keep (by assumption) a o e)) (by assumption) ?_ | refine tyg_variant (by assumption) (by assumption) (TyH.mono (by assumption) (fun a o e => Fr.keep (by assumption) a o e)) ?_)
    iterate 7 ((try dsimp only); walk1)
    ((try dsimp only); first | refine tyE_designated (by assumption) (by assumption) (TyH.mono (by assumption) (fun a o e => Fr.keep (by assumption) a o e)) (by assumption) ?_ | refine tyg_designated (by assumption) (by assumption) (TyH.mono (by assumption) (fun a o e => Fr.keep (by assumption) a o e)) ?_)
    iterate 7 ((try dsimp only); walk1)
    ((try dsimp only); first | refine tyE_tagged (by assumption) (by assumption) (TyH.mono (by assumption) (fun a o e => Fr.keep (by assumption) a o e)) (by assumption) ?_ | refine tyg_tagged (by assumption) (by assumption) (TyH.mono (by assumption) (fun a o e => Fr.keep (by assumption) a o e)) ?_)
    iterate 7 ((try dsimp only); walk1)
    ((try dsimp only); first | refine tyE_limited (by assumption) (by assumption) (TyH.mono (by assumption) (fun a o e => Fr.keep (by assumption) a o e)) (by assumption) ?_ | refine tyg_limited (by assumption) (by assumption) (TyH.mono (by assumption) (fun a o e => Fr.keep (by assumption) a o e)) ?_)
    iterate 11 ((try dsimp only); walk1)
    ((try dsimp only); first | refine tyE_ops (by assumption) (by assumption) (TyH.mono (by assumption) (fun a o e => Fr.keep (by assumption) a o e)) (by assumption) ?_ | refine tyg_ops (by assumption) (by assumption) (TyH.mono (by assumption) (fun a o e => Fr.keep (by assumption) a o e)) ?_)
    ((try dsimp only); walk1)
    ((try dsimp only); refine dict_copy0 (by assumption) (by assumption) (by assumption) (Fr.keep (by assumption) _ _ (by assumption)) (by assumption) (by assumption) ?_; (intro _ _ _ _ _ lt y6; (try replace lt := allLt_of lt); revert lt y6; intro _ _))
    iterate 6 ((try dsimp only); walk1)
    (k_unfold; (try dsimp only))
  rename TF => TT
  refine Done.der (by assumption) (by assumption) (derPost TT T (And.right ‹_ ∧ TT.handed = true›) q8 (by assumption) ?_)
  (repeat' apply And.intro) <;> k_ne
end
section
open PySem PySem.W PyProof.Rows PySem.Calls PySem.SeqAt PyProof.Rows.LCg
set_option maxRecDepth 100000
set_option maxHeartbeats 1000000
noncomputable abbrev rowOb (x : PySem.Str) (t : Tok) (v2 v3 : Value) (n : Nat) : Obj := { cls := .type "tuple", data := .seq #[.str x t, v2, v3] n }
noncomputable def RowV (R : Addr → Obj → Prop) (v : Value) (x : PySem.Str) : Prop := ∃ a t v2 v3 n, v = .ref a ∧ R a (rowOb x t v2 v3 n)
noncomputable def RowsR (R : Addr → Obj → Prop) (vs : List Value) (xs : List PySem.Str) : Prop := vs.length = xs.length ∧ ∀ (i : Nat) (x : PySem.Str), xs[i]? = some x → ∃ v, vs[i]? = some v ∧ RowV R v x
theorem RowV.mono {R R' : Addr → Obj → Prop} {v : Value} {x : PySem.Str} (h : RowV R v x) (k : ∀ a o, R a o → R' a o) : RowV R' v x := by
  obtain ⟨a, t, v2, v3, n, e, r⟩ := h; exact ⟨a, t, v2, v3, n, e, k _ _ r⟩
theorem RowsR.mono {R R' : Addr → Obj → Prop} {vs : List Value} {xs : List PySem.Str} (h : RowsR R vs xs) (k : ∀ a o, R a o → R' a o) : RowsR R' vs xs :=
  ⟨h.1, fun i x e => let ⟨v, e1, r⟩ := h.2 i x e; ⟨v, e1, r.mono k⟩⟩
theorem RowsR.nil {R : Addr → Obj → Prop} : RowsR R [] [] := ⟨rfl, fun i x e => by simp at e⟩
theorem RowsR.append {R : Addr → Obj → Prop} {vs ws : List Value} {xs ys : List PySem.Str} (h : RowsR R vs xs) (k : RowsR R ws ys) : RowsR R (vs ++ ws) (xs ++ ys) := by
  refine ⟨by simp [h.1, k.1], fun i x e => ?_⟩
  by_cases hi : i < xs.length
  · rw [List.getElem?_append_left hi] at e
    rw [List.getElem?_append_left (h.1 ▸ hi)]
    exact h.2 i x e
  · have hi' : xs.length ≤ i := Nat.le_of_not_lt hi
    rw [List.getElem?_append_right hi'] at e
    rw [List.getElem?_append_right (h.1 ▸ hi'), h.1]
    exact k.2 _ x e
theorem RowsR.snoc {R : Addr → Obj → Prop} {vs : List Value} {xs : List PySem.Str} {v : Value} {x : PySem.Str} (h : RowsR R vs xs) (k : RowV R v x) : RowsR R (vs ++ [v]) (xs ++ [x]) :=
  h.append ⟨rfl, fun i y e => by
    cases i with
    | zero => simp at e; subst e; exact ⟨v, rfl, k⟩
    | succ i => simp at e⟩
theorem RowsR.drop {R : Addr → Obj → Prop} {vs : List Value} {xs : List PySem.Str} (h : RowsR R vs xs) (k : Nat) : RowsR R (vs.drop k) (xs.drop k) :=
  ⟨by simp [h.1], fun i x e => by rw [List.getElem?_drop] at e ⊢; exact h.2 _ x e⟩
noncomputable abbrev GN (h₀ : Heap) (news : List (Addr × Obj)) : Addr → Obj → Prop := fun a o => h₀.get? a = some o ∨ (a, o) ∈ news
theorem GN.at {h₀ h : Heap} {L : Addr} {m : PySem.Str → Option Value} {news : List (Addr × Obj)} (F : Fr h₀ L h m) (N : News h₀ L h news) : ∀ a o, GN h₀ news a o → h.get? a = some o := fun a o e => e.elim (F.keep a o) (fun e => (N _ e).1)

section
variable {prog : Program} {w : World} {A : Around} {E : Value → Shared → Prop} {s : Shared} {h₀ : Heap} {L : Addr} {m : PySem.Str → Option Value} {env : Env}
theorem compRest_inv {elt : PySem.Expr} {x : PySem.Str} {scope : Scope} {cl : List (PySem.Str × Addr)} {S : List (Addr × Obj) → Prop} {P : Nat → Value → Prop} {Fin : List Value → List (Addr × Obj) → Prop} {n : Nat} (J : Nat → List Value → List (Addr × Obj) → Prop)
    (step : ∀ i ys news v I oI C oC D m₂ h tk (E' : Value → Shared → Prop), i < n → J i ys news → P i v → NsObj oC m₂ → m₂ x = some v → Fr h₀ L h m → News h₀ L h ((I, oI) :: (C, oC) :: (D, lst ys) :: news) → Off3 I C D news → ((@Ne Nat I C) ∧ (@Ne Nat I D) ∧ (@Ne Nat C D)) →
      wpAny (model prog w) A (eval elt (compEnvC scope cl C env)) (CompEnd h₀ L m { s with heap := h, toks := tk } I oI C oC D (lst ys) S (fun y news' => J (i + 1) (ys ++ [y]) news')) E' { s with heap := h, toks := tk })
    (fin : ∀ ys news, J n ys news → Fin ys news) : ∀ k i ys news, i + k = n → J i ys news → CompRest prog w A h₀ L m env elt x scope cl s S P Fin k i ys news
  | 0, i, ys, news, e, j => fin ys news (by have : i = n := by omega
                                            rw [← this]; exact j)
  | k + 1, i, ys, news, e, j => CompRest.succ fun v I oI C oC D m₂ h tk E' hP hC hx F N off ne =>
    wpAny_mono (step i ys news v I oI C oC D m₂ h tk E' (by omega) j hP hC hx F N off ne) (fun y s₂ ⟨h', tk', news', e1, F', N', off', hS, r⟩ =>
      ⟨h', tk', news', e1, F', N', off', hS, compRest_inv J step fin k (i + 1) _ _ (by omega) r⟩) fun _ _ z => z

theorem row_elt {x : PySem.Str} {scope : Scope} {cl : List (PySem.Str × Addr)} {p1 p2 p3 : Pos} {c : Nat} {C : Addr} {oC : Obj} {m₂ : PySem.Str → Option Value} {v : Value} {nm : PySem.Str} {Q : Value → Shared → Prop}
    (hkind : scope.kind = .function) (hx : scope.names.lookup x = some .local) (hC : NsObj oC m₂) (hv : m₂ x = some v) (hg : s.heap.get? C = some oC) (hr : RowV (fun a o => s.heap.get? a = some o) v nm) (hd : (x == ("__debug__" : Str)) = false)
    (h : ∀ t tk, Q (.str nm t) { s with toks := tk }) :
    wpAny (model prog w) A (eval (.Subscript (.Name x p1) (.Constant (.int 0) c p2) p3) (compEnvC scope cl C env)) Q E s := by
  refine byNo fun hno => ?_
  obtain ⟨a, t, v2, v3, n, rfl, ho⟩ := hr
  refine hno ?_
  clear hno
  refine Subscript_ (wpAny_Name (wpAny_loadName_local (by simp [compEnvC, relabel, hkind]) (lookup_relabel_local hx) (hC.ns hg) hv ?_) hd)
  have step : wpAny (model prog w) A (eval (.Constant (.int 0) c p2) (compEnvC scope cl C env)) (fun i s₂ => wpAny (model prog w) A (subscriptTail (.Name x p1) (.Constant (.int 0) c p2) (.ref a) i) Q E s₂) E s := by
    refine wpAny_Constant_int ?_
    exact item_tupleT (l := [.str nm t, v2, v3]) (j := 0) ⟨_, ho, rfl, n, rfl⟩ (by decide) (by decide) rfl rfl (h _ _)
  exact step

theorem strs_snoc {ys : List Value} {xs : List PySem.Str} {x : PySem.Str} {t : Tok} (h : StrsAre ys xs) : StrsAre (ys ++ [.str x t]) (xs ++ [x]) := h.append' (.cons x t .nil)
noncomputable def RowsSrc (h₀ : Heap) (L : Addr) (m : PySem.Str → Option Value) (Q : Value → Shared → Prop) (xv : Value) (s₁ : Shared) : Prop :=
  ∃ ax vs xs news, xv = .ref ax ∧ Fr h₀ L s₁.heap m ∧ News h₀ L s₁.heap news ∧ SrcAt h₀ ax vs.toArray news ∧ RowsR (GN h₀ news) vs xs ∧ vs.length ≤ sizeLine ∧
      ∀ D h' tk ws, StrsAre ws xs → Fr h₀ L h' m → News h₀ L h' ((D, lst ws) :: news) → Off1 D news → Q (.ref D) { s₁ with heap := h', toks := tk }
theorem rowsSrc_led {ax : Addr} {n : Nat} {vs : List Value} {xs : List PySem.Str} {news : List (Addr × Obj)} {Q : Value → Shared → Prop} (F : Fr h₀ L s.heap m) (N : News h₀ L s.heap news) (hm : (ax, listOf vs.toArray n) ∈ news) (R : RowsR (GN h₀ news) vs xs) (hz : vs.length ≤ sizeLine)
    (k : ∀ D h' tk ws, StrsAre ws xs → Fr h₀ L h' m → News h₀ L h' ((D, lst ws) :: news) → Off1 D news → Q (.ref D) { s with heap := h', toks := tk }) : RowsSrc h₀ L m Q (.ref ax) s :=
  ⟨ax, vs, xs, news, rfl, F, N, .inr ⟨_, hm, rfl, _, rfl⟩, R, hz, k⟩
theorem rowsSrc_base {ax : Addr} {vs : List Value} {xs : List PySem.Str} {news : List (Addr × Obj)} {Q : Value → Shared → Prop} (F : Fr h₀ L s.heap m) (N : News h₀ L s.heap news) (hm : h₀.IsList ax vs.toArray) (R : RowsR (GN h₀ news) vs xs) (hz : vs.length ≤ sizeLine)
    (k : ∀ D h' tk ws, StrsAre ws xs → Fr h₀ L h' m → News h₀ L h' ((D, lst ws) :: news) → Off1 D news → Q (.ref D) { s with heap := h', toks := tk }) : RowsSrc h₀ L m Q (.ref ax) s :=
  ⟨ax, vs, xs, news, rfl, F, N, .inl hm, R, hz, k⟩
theorem rows_comp {iter : PySem.Expr} {x : PySem.Str} {px p1 p2 p3 pos : Pos} {c : Nat} {scope : Scope} {cl : List (PySem.Str × Addr)} {Q : Value → Shared → Prop} (F₀ : Fr h₀ L s.heap m)
    (hh : A.handled = none) (hclos : closureFor scope env = pure cl) (hcell : ∀ y ∈ scope.names, y.2 ≠ .cell) (hkind : scope.kind = .function)
    (hnames : ∀ y ∈ scope.names, y.2 = .local → scope.names.lookup y.1 = some .local) (hx : scope.names.lookup x = some .local) (hd : (x == ("__debug__" : Str)) = false)
    (h : wpAny (model prog w) A (eval iter env) (RowsSrc h₀ L m Q) E s)
    (hs : ∀ x, foldedSetIterable iter env x = pure x := by intro _; rfl) :
    wpAny (model prog w) A (eval (.ListComp (.Subscript (.Name x p1) (.Constant (.int 0) c p2) p3) [⟨.Name x px, iter, [], 0⟩] scope pos) env) Q E s := by
  refine ListComp_U F₀ hclos hcell hkind hnames hx (wpAny_mono h (fun xv s₁ h₁ => ?_) fun _ _ z => z) hs
  refine byNo fun hno => ?_
  obtain ⟨ax, vs, xs, news, rfl, F, N, S, R, hsz, fin⟩ := h₁
  refine hno ?_
  clear hno
  refine .inl ⟨ax, vs.toArray, news, rfl, hh, F, N, S, by simpa using hsz, fun s₂ e => ?_⟩
  refine byNo fun hno => ?_
  obtain ⟨g, rfl⟩ := e
  refine hno ?_
  clear hno
  refine compRest_inv (n := vs.toArray.size) (fun i ys nw => nw = news ∧ StrsAre ys (xs.take i)) ?_ ?_ _ 0 [] news (by simp) ⟨rfl, by simpa using StrsAre.nil⟩
  · rintro i ys nw v I oI C oC D m₂ h₂ tk E' hi ⟨rfl, hy⟩ hP hC hm F₂ N₂ off ne
    have hi' : i < xs.length := by rw [← R.1]; simpa using hi
    refine byNo fun hno => ?_
    obtain ⟨v', e1, r⟩ := R.2 i _ (List.getElem?_eq_getElem hi')
    refine hno ?_
    clear hno
    have : v' = v := by
      have : vs[i]? = some v := by simpa using hP
      rw [e1] at this; exact Option.some.inj this
    subst this
    refine row_elt hkind hx hC hm (N₂ (C, oC) (.tail _ (.head _))).1 (r.mono (GN.at F₂ fun p hp => N₂ p (.tail _ (.tail _ (.tail _ hp))))) hd fun t tk' => ?_
    refine CompEnd.intro F₂ N₂ nw (fun p hp => hp) off S ⟨rfl, ?_⟩
    rw [List.take_add_one, List.getElem?_eq_getElem hi']
    exact strs_snoc hy
  · rintro ys nw ⟨rfl, hy⟩ D h₂ tk F₂ N₂ o1
    rw [List.size_toArray, R.1, List.take_length] at hy
    exact fin D h₂ tk ys hy F₂ N₂ o1
end
end
section
open PySem PySem.W PyProof.Rows PySem.Calls PySem.SeqAt PyProof.Rows.LCg
set_option maxRecDepth 100000
set_option maxHeartbeats 1000000
section
variable {prog : Program} {w : World} {A : Around} {E : Value → Shared → Prop} {s : Shared} {h₀ : Heap} {L l b : Addr} {m : PySem.Str → Option Value} {news : List (Addr × Obj)} {value slice : PySem.Expr} {vs ws : List Value} {Q : Value → Shared → Prop}
theorem len_L (hl : s.heap.IsList l vs.toArray) (hz : vs.length ≤ 1000000) (h : ∀ t tk, Q (.int ((vs.length : Nat) : Int) t) { s with toks := tk }) : wpAny (model prog w) A (call (.builtin "len") [.ref l]) Q E s :=
  call_len_list hl (by rw [List.size_toArray]; omega) (by rw [List.size_toArray]; exact h _ _)
theorem slice_any {items : Array Value} {vl vu vk : Value} {lo hi st : Option Int} {ops : List Value} (F : Fr h₀ L s.heap m) (N : News h₀ L s.heap news) (hl : s.heap.IsList l items) (pl : IsPart vl lo) (pu : IsPart vu hi) (pk : IsPart vk st) (h0 : st ≠ some 0)
    (h : ∀ h', Fr h₀ L h' m → News h₀ L h' ((s.heap.objs.size + 1, { cls := .type "list", data := .seq (slicePick items lo hi st) }) :: news) → Q (.ref (s.heap.objs.size + 1)) { s with heap := h' })
    (hs : subscripted slice false (.ref l) (.ref s.heap.objs.size) = operate ops (getItem (.ref l) (.ref s.heap.objs.size))) (hsz : items.size ≤ sizeLine) :
    wpAny (model prog w) A (subscriptTail value slice (.ref l) (.ref s.heap.objs.size)) Q E { s with heap := s.heap.push { cls := .type "slice", data := .fields #[vl, vu, vk] } } := by
  refine tail_any (Heap.IsList.typeIs (s := { s with heap := s.heap.push { cls := .type "slice", data := .fields #[vl, vu, vk] } }) (hl.push _)) list_getitem_lookup
    (wpAny_getItem_list_slice (hl.push _) (Heap.IsSliceOf.new ..) pl pu pk h0 ?_ hsz) hs
  have N1 := News.push (F.push { cls := .type "slice", data := .fields #[vl, vu, vk] }) (N.grown fun _ _ e => Heap.get?_push_of_some _ e) { cls := .type "list", data := .seq (slicePick items lo hi st) }
  rw [Heap.size_push] at N1
  show Q (.ref (s.heap.push _).objs.size) _
  rw [Heap.size_push]
  exact h _ ((F.push _).push _) N1
theorem add_L (F : Fr h₀ L s.heap m) (N : News h₀ L s.heap news) (hl : s.heap.IsList l vs.toArray) (hb : s.heap.IsList b ws.toArray)
    (h : ∀ D h', Fr h₀ L h' m → News h₀ L h' ((D, listOf (vs ++ ws).toArray 0) :: news) → (∀ p ∈ news, @LT.lt Nat _ p.1 D) → Q (.ref D) { s with heap := h' }) (hz : vs.length + ws.length ≤ sizeLine) :
    wpAny (model prog w) A (binaryOp .Add (.ref l) (.ref b)) Q E s := by
  refine add_arrays (hsz := by simpa using hz) F N hl hb fun h' F' N' => h _ h' F' (by simpa using N') fun p hp => Heap.lt_size (N p hp).1
theorem slice_fromH {hh : Heap} {gs : Array GenState} {dr : Drawn} {tk : Nat} {os : OsState} {k : Nat} {u : Tok} (F : Fr h₀ L hh m) (N : News h₀ L hh news) (hl : hh.IsList l vs.toArray)
    (h : ∀ D h', Fr h₀ L h' m → News h₀ L h' ((D, listOf (vs.drop k).toArray 0) :: news) → (∀ p ∈ news, @LT.lt Nat _ p.1 D) → Q (.ref D) ⟨h', gs, dr, tk, os⟩)
    (hs : subscripted slice false (.ref l) (.ref hh.objs.size) = operate [.ref hh.objs.size, .ref l] (getItem (.ref l) (.ref hh.objs.size))) (hz : vs.length ≤ sizeLine) :
    wpAny (model prog w) A (subscriptTail value slice (.ref l) (.ref hh.objs.size)) Q E ⟨hh.push { cls := .type "slice", data := .fields #[.int ((k : Nat) : Int) u, .none, .none] }, gs, dr, tk, os⟩ := by
  refine slice_any (s := ⟨hh, gs, dr, tk, os⟩) F N hl (IsPart.int _ _) IsPart.none IsPart.none (by decide) (fun h' F' N' => h _ h' F' ?_ fun p hp => Nat.lt_succ_of_lt (Heap.lt_size (N p hp).1)) hs (by rw [List.size_toArray]; exact hz)
  rw [slicePick_from'] at N'
  exact N'
end
theorem Done.hd {s : Shared} {g h' : Heap} {L' : Addr} {m' : PySem.Str → Option Value} {a : Addr × Obj} {rest : List (Addr × Obj)} {Post : Value → List (Addr × Obj) → List (Addr × Obj) → Prop} {v : Value} {tk : Nat} (F : Fr g L' h' m') (N : News g L' h' (a :: rest)) (hp : Post v [] [a]) : Done s g L' [] Post v { s with heap := h', toks := tk } :=
  Done.new [a] F (fun p hp => N p (by rw [List.mem_singleton.mp hp]; exact .head _)) hp
theorem Done.last {s : Shared} {g h' : Heap} {L' : Addr} {m' : PySem.Str → Option Value} {a : Addr × Obj} {all : List (Addr × Obj)} {Post : Value → List (Addr × Obj) → List (Addr × Obj) → Prop} {v : Value} {tk : Nat} (F : Fr g L' h' m') (N : News g L' h' all) (hl : all.getLast? = some a) (hp : Post v [] [a]) : Done s g L' [] Post v { s with heap := h', toks := tk } :=
  Done.new [a] F (fun p hp => N p (by rw [List.mem_singleton.mp hp]; exact List.mem_of_getLast? hl)) hp
end
set_option maxHeartbeats 1000000

noncomputable def CompsH (w : World) (R : Addr → Obj → Prop) (x : Addr) (T : TF) (vs : List Value) (xs : List PySem.Str) : Prop :=
  TyH w R x T ∧ ∃ c n, T.comps = .ref c ∧ R c (listOf vs.toArray n) ∧ RowsR R vs xs
noncomputable def NamesPost (xs : List PySem.Str) (r : Value) (_upd new : List (Addr × Obj)) : Prop := ∃ D ws n, r = .ref D ∧ new = [(D, listOf ws.toArray n)] ∧ StrsAre ws xs
local macro_rules | `(tactic| k_search 3) => `(tactic| first | (with_reducible assumption) | exact List.Mem.head _ | (refine List.mem_cons_of_mem _ ?_; k_search 3))
local macro_rules | `(tactic| k_search 4) => `(tactic| first | (rw [sizeLine_eq]; omega) | omega | (simp only [sizeLine_eq, List.length_append, List.length_drop, List.length_cons, List.length_nil, List.length_replicate, List.length_map, List.length_range] <;> omega) | ((try simp only [sizeLine_eq, List.length_replicate, List.length_map, List.length_range, List.length_append, List.length_drop, List.length_cons, List.length_nil] at *); omega))
local macro_rules | `(tactic| k_search 5) => `(tactic| first | ((with_reducible show RowsR _ (List.drop _ _) _); exact RowsR.drop (by k_search 5) _) | ((with_reducible show RowsR _ (_ ++ _) _); exact RowsR.append (by k_search 5) (by k_search 5)) | exact RowsR.mono (by with_reducible assumption) (fun _ _ e => Or.inl e) | exact RowsR.mono (by with_reducible assumption) (fun a o e => Or.inr (by k_search 3)))
section

theorem extnames_spec (w : World) (mean mg mb) (k a : Addr) (T U : TF) (vs ws : List Value) (xs ys : List PySem.Str) (hl : vs.length ≤ 100) (hl2 : ws.length ≤ 100) :
    Spec w mean mg mb 166 [.ref k, .ref a] 30 2000 [] (fun h => CompsH w (At h) k T vs xs ∧ CompsH w (At h) a U ws ys) (NamesPost (xs.drop ws.length)) := by
  refine spec_enter [(Str.ofString "kind", .ref k), (Str.ofString "ancestor", .ref a)] (by k_is) (by k_is) (fun _ => BindsTo.of_eq rfl) (locs rfl) rfl rfl rfl (by decide) ?_
  intro dp un gd env outer base g L' h₁ s tk₀ hd hu hP G F N B X Tp
  refine byNo fun hno => ?_
  obtain ⟨⟨t1, c1, n1, e1, l1, r1⟩, ⟨t2, c2, n2, e2, l2, r2⟩⟩ := hP
  refine hno ?_
  clear hno
  have G' : ∀ a o, At s.heap a o → At g a o := fun a o e => G a o e (by simp)
  have t1' := t1.mono G'
  have t2' := t2.mono G'
  have l1' : g.IsList c1 vs.toArray := isListOf (G' _ _ l1)
  have l2' : g.IsList c2 ws.toArray := isListOf (G' _ _ l2)
  have r1' := r1.mono G'
  clear t1 t2 l1 l2 r1 r2
  k_with_none
  (try k_unmd); (try dsimp only); (try k_fold)
  focus
    iterate 2 ((try dsimp only); walk1)
    ((try dsimp only); refine rows_comp (by assumption) rfl rfl (by decide) rfl (by decide) (by decide) (by decide) ?_)
    iterate 3 ((try dsimp only); walk1)
    ((try dsimp only); first | refine tyE_comps (by assumption) (by assumption) (TyH.mono (by assumption) (fun a o e => Fr.keep (by assumption) a o e)) (by assumption) ?_ | refine tyg_comps (by assumption) (by assumption) (TyH.mono (by assumption) (fun a o e => Fr.keep (by assumption) a o e)) ?_)
    iterate 8 ((try dsimp only); walk1)
    ((try dsimp only); first | refine tyE_comps (by assumption) (by assumption) (TyH.mono (by assumption) (fun a o e => Fr.keep (by assumption) a o e)) (by assumption) ?_ | refine tyg_comps (by assumption) (by assumption) (TyH.mono (by assumption) (fun a o e => Fr.keep (by assumption) a o e)) ?_)
    ((try dsimp only); walk1)
    ((try dsimp only); refine len_L (by first | exact Heap.IsList.at (by assumption) (fun o e => Fr.keep (by assumption) _ o e) | exact isListOf (News.get (by assumption) (by k_search 3))) (by k_search 4) ?_; (intro _ _))
    iterate 2 ((try dsimp only); walk1)
    ((try dsimp only); refine' slice_fromH (by assumption) (by assumption) ?l ?_ ?s ?z; (case l => first | exact Heap.IsList.at (by assumption) (fun o e => Fr.keep (by assumption) _ o e) | exact isListOf (News.get (by assumption) (by k_search 3))); (case s => with_unfolding_all rfl); (case z => k_search 4); (intro _ _ _ _ lt; (try replace lt := allLt_of lt); revert lt; intro _))
    (((with_reducible show RowsSrc _ _ _ _ _ _); first | refine rowsSrc_base (by assumption) (by assumption) (by with_reducible assumption) (by k_search 5) (by k_search 4) ?_ | refine rowsSrc_led (by assumption) (by assumption) (by k_search 3) (by k_search 5) (by k_search 4) ?_); (intro _ _ _ _ hw y5 y6 y7; (have hwl := StrsAre.length hw); (try simp only [List.length_cons, List.length_nil, List.length_drop, List.length_append] at hwl); revert hw y5 y6 y7 hwl; intro _ _ _ _ _))
  exact Done.hd (by assumption) (by assumption) ⟨_, _, _, rfl, rfl, by assumption⟩
end
section
open PySem PySem.W PyProof.Rows PySem.Calls PySem.SeqAt PySem.Spec PyProof.Rows.LCg
set_option maxRecDepth 100000
set_option maxHeartbeats 1000000
section
variable {prog : Program} {w : World} {A : Around} {E : Value → Shared → Prop} {s : Shared} {h₀ : Heap} {m : PySem.Str → Option Value} {env : Env} {news : List (Addr × Obj)} {target : PySem.Expr} {body : List Stmt} {Q : Flow → Shared → Prop}
noncomputable abbrev FMap := PySem.Str → Option Value
noncomputable def TurnEnd (h₀ : Heap) (L : Addr) (I : Addr) (oI : Obj) (S : List (Addr × Obj) → Prop) (J : FMap → List (Addr × Obj) → Prop) (Q : Flow → Shared → Prop) (s₀ : Shared) (f : Flow) (s₃ : Shared) : Prop :=
  match f with
  | .ret v => Q (.ret v) s₃
  | .brk => Q .next s₃
  | _ => ∃ h' tk' m' news', s₃ = { s₀ with heap := h', toks := tk' } ∧ Fr h₀ L h' m' ∧ News h₀ L h' ((I, oI) :: news') ∧ (∀ p ∈ news', p.1 ≠ I) ∧ S news' ∧ J m' news'

theorem loop_W {I : Addr} {fp : List Addr} {n : Nat} {P : Nat → Value → Prop} {St : Nat → Heap → Prop} {S : List (Addr × Obj) → Prop} {s₂ : Shared} (J : Nat → FMap → List (Addr × Obj) → Prop)
    (W : Walks prog w A I fp [I] n P St) (hIo : ∀ i h, St i h → ∃ o, h.get? I = some o)
    (hSt : ∀ i h h' o nw, St i h → h.get? I = some o → h'.get? I = some o → (∀ b o, h₀.get? b = some o → h'.get? b = some o) → News h₀ env.locals h' nw → S nw → St i h')
    (hgo : ∀ i (v : Value) (s' : Shared) (Q' : Unit → Shared → Prop) (E' : Value → Shared → Prop), St i s'.heap → Q' () s' → wpAny (model prog w) A (letOwnedTupleGo target (.ref I) v) Q' E' s')
    (hst : St 0 s₂.heap) (F : Fr h₀ env.locals s₂.heap m) (N : News h₀ env.locals s₂.heap news) (hIL : env.locals ≠ I) (hI₀ : h₀.get? I = none) (off : ∀ p ∈ news, p.1 ≠ I) (hS : S news) (hJ : J 0 m news)
    (turn : ∀ i v m₁ news₁ h tk oI, i < n → P i v → J i m₁ news₁ → S news₁ → Fr h₀ env.locals h m₁ → News h₀ env.locals h ((I, oI) :: news₁) → (∀ p ∈ news₁, p.1 ≠ I) →
      wpAny (model prog w) A (assign target env v) (fun _ s₄ => wpAny (model prog w) A (execs body env) (TurnEnd h₀ env.locals I oI S (J (i + 1)) Q s₂) (notedBy (model prog w) A env (cameBackBy (model prog w) A env E)) s₄) (notedBy (model prog w) A env (cameBackBy (model prog w) A env E)) { s₂ with heap := h, toks := tk })
    (done : ∀ m₁ news₁ h tk, J n m₁ news₁ → Fr h₀ env.locals h m₁ → News h₀ env.locals h news₁ → Q .next { s₂ with heap := h, toks := tk }) :
    codeAny (model prog w) A (.forLoop target (.ref I) body [] env) (fun r s' => match r with | .ok f => Q f s' | .error e => cameBackBy (model prog w) A env E e s') s₂ := by
  refine codeAny_forLoop_any (fun k s' => ∃ h' tk i m' news', s' = { s₂ with heap := h', toks := tk } ∧ i ≤ n ∧ k = n + 1 - i ∧ St i h' ∧ Fr h₀ env.locals h' m' ∧ News h₀ env.locals h' news' ∧ (∀ p ∈ news', p.1 ≠ I) ∧ S news' ∧ J i m' news') ?_ (n + 1)
    ⟨s₂.heap, s₂.toks, 0, m, news, rfl, Nat.zero_le _, rfl, hst, F, N, off, hS, hJ⟩
  intro k s' hq2
  refine byNo fun hno => ?_
  obtain ⟨h', tk, i, m', news', rfl, hi, rfl, hst', F', N', off', hS', hJ'⟩ := hq2
  refine hno ?_
  clear hno
  by_cases hlt : i < n
  · refine W.item i _ _ _ hlt hst' fun v h₁ tk₁ hP hst₁ hk₁ => ?_
    refine byNo fun hno => ?_
    obtain ⟨oI, heI⟩ := hIo _ _ hst₁
    refine hno ?_
    clear hno
    have F₁ := fr_but F' hk₁ hIL hI₀
    have N₁ := news_but N' hk₁ off'
    have N₂ : News h₀ env.locals h₁ ((I, oI) :: news') := fun p hp => by
      rcases List.mem_cons.mp hp with rfl | hp
      · exact ⟨heI, Ne.symm hIL, hI₀⟩
      · exact N₁ p hp
    refine hgo (i + 1) v _ _ _ hst₁ ?_
    refine wpAny_mono (turn i v m' news' h₁ tk₁ oI hlt hP hJ' hS' F₁ N₂ off') (fun _ s₄ h₄ => wpAny_mono h₄ (fun f s₃ h₃ => ?_) fun _ _ z => z) fun _ _ z => z
    cases f with
    | ret v => exact h₃
    | brk => exact h₃
    | next =>
      refine byNo fun hno => ?_
      obtain ⟨h₃', tk₃, m₃, news₃, rfl, F₃, N₃, off₃, hS₃, hJ₃⟩ := h₃
      refine hno ?_
      clear hno
      exact ⟨n + 1 - (i + 1), by omega, h₃', tk₃, i + 1, m₃, news₃, rfl, hlt, rfl, hSt _ _ _ _ _ hst₁ heI (N₃ _ (.head _)).1 F₃.keep (fun p hp => N₃ p (.tail _ hp)) hS₃, F₃, fun p hp => N₃ p (.tail _ hp), off₃, hS₃, hJ₃⟩
    | cont =>
      refine byNo fun hno => ?_
      obtain ⟨h₃', tk₃, m₃, news₃, rfl, F₃, N₃, off₃, hS₃, hJ₃⟩ := h₃
      refine hno ?_
      clear hno
      exact ⟨n + 1 - (i + 1), by omega, h₃', tk₃, i + 1, m₃, news₃, rfl, hlt, rfl, hSt _ _ _ _ _ hst₁ heI (N₃ _ (.head _)).1 F₃.keep (fun p hp => N₃ p (.tail _ hp)) hS₃, F₃, fun p hp => N₃ p (.tail _ hp), off₃, hS₃, hJ₃⟩
  · obtain rfl : i = n := Nat.le_antisymm hi (Nat.not_lt.mp hlt)
    refine W.done _ _ _ hst' fun h₁ tk₁ hk₁ => ?_
    exact wpAny_execs_nil (done m' news' h₁ tk₁ hJ' (fr_but F' hk₁ hIL hI₀) (news_but N' hk₁ off'))

theorem iter_L {l : Addr} {vs : List Value} (J : Nat → FMap → List (Addr × Obj) → Prop) (hh : A.handled = none) (F : Fr h₀ env.locals s.heap m) (N : News h₀ env.locals s.heap news) (hS : SrcAt h₀ l vs.toArray news) (hJ : J 0 m news)
    (turn : ∀ i v m₁ news₁ h tk I oI, vs[i]? = some v → J i m₁ news₁ → SrcAt h₀ l vs.toArray news₁ → Fr h₀ env.locals h m₁ → News h₀ env.locals h ((I, oI) :: news₁) → (∀ p ∈ news₁, @Ne Nat p.1 I) →
      wpAny (model prog w) A (assign target env v) (fun _ s₄ => wpAny (model prog w) A (execs body env) (TurnEnd h₀ env.locals I oI (SrcAt h₀ l vs.toArray) (J (i + 1)) Q s) (notedBy (model prog w) A env (cameBackBy (model prog w) A env E)) s₄) (notedBy (model prog w) A env (cameBackBy (model prog w) A env E)) { s with heap := h, toks := tk })
    (done : ∀ m₁ news₁ h tk, J vs.length m₁ news₁ → Fr h₀ env.locals h m₁ → News h₀ env.locals h news₁ → Q .next { s with heap := h, toks := tk }) :
    wpAny (model prog w) A (pyIter (.ref l)) (fun it s₂ => codeAny (model prog w) A (.forLoop target it body [] env) (fun r s' => match r with | .ok f => Q f s' | .error e => cameBackBy (model prog w) A env E e s') s₂) E s := by
  have hl := hS.list F.keep N
  have hlt : l < s.heap.objs.size := by obtain ⟨_, e, _⟩ := hl; exact Heap.lt_size e
  refine wpAny_pyIter_list hl ?_
  have up : ∀ b o, s.heap.get? b = some o → (s.heap.push { cls := .type "list_iterator", data := .fields #[.ref l, .int 0 0] }).get? b = some o := fun b o e => Heap.get?_push_of_some _ e
  refine loop_W (S := SrcAt h₀ l vs.toArray) J (Walks.list hh s.heap.objs.size l (Nat.ne_of_lt hlt) vs.toArray) (fun i h st => by obtain ⟨o, e, _⟩ := st.1; exact ⟨o, e⟩) list_st (fun i v s' Q' E' st q => letGo_listiter st.1 q) ⟨⟨_, Heap.get?_push_size _ rfl, rfl, rfl⟩, hl.push _⟩
    (F.keeps up) (N.grown up) (Nat.ne_of_lt F.ns.lt) (next_is_new F) (fun p hp => Nat.ne_of_lt (Heap.lt_size (N p hp).1)) hS hJ ?_ ?_
  · intro i v m₁ news₁ h tk oI hi hP hj hS₁ F₁ N₁ off
    exact turn i v m₁ news₁ h tk _ oI (by simpa using hP) hj hS₁ F₁ N₁ off
  · intro m₁ news₁ h tk hj F₁ N₁
    exact done m₁ news₁ h tk (by simpa using hj) F₁ N₁

theorem For_of {iter : PySem.Expr} {pos : Pos}
    (h : wpAny (model prog w) A (eval iter env) (fun xv s₁ => wpAny (model prog w) A (pyIter xv) (fun it s₂ => codeAny (model prog w) A (.forLoop target it body [] env) (fun r s' => match r with | .ok f => Q f s' | .error e => cameBackBy (model prog w) A env E e s') s₂) E s₁) E s)
    (hs : ∀ x, foldedSetIterable iter env x = pure x := by intro _; rfl) :
    wpAny (model prog w) A (exec (.For target iter body [] pos) env) Q E s := wpAny_For h hs

theorem off1_mem {D : Addr} {l : List (Addr × Obj)} (h : Off1 D l) : ∀ p ∈ l, @Ne Nat p.1 D := by
  induction l with
  | nil => intro p hp; cases hp
  | cons a r ih =>
    intro p hp
    rcases List.mem_cons.mp hp with rfl | hp
    · exact h.1
    · exact ih h.2 p hp
theorem off1_of {D : Addr} {l : List (Addr × Obj)} (h : ∀ p ∈ l, @Ne Nat p.1 D) : Off1 D l := by
  induction l with
  | nil => trivial
  | cons a r ih => exact ⟨h _ List.mem_cons_self, ih fun p hp => h p (List.mem_cons_of_mem _ hp)⟩
noncomputable def OneEnd (h₀ : Heap) (L : Addr) (I : Addr) (oI : Obj) (Q : Flow → Shared → Prop) (s₀ : Shared) (f : Flow) (s₃ : Shared) : Prop :=
  match f with
  | .ret v => Q (.ret v) s₃
  | .brk => Q .next s₃
  | _ => ∃ h' tk' m' all, s₃ = { s₀ with heap := h', toks := tk' } ∧ Fr h₀ L h' m' ∧ News h₀ L h' all ∧ all.getLast? = some (I, oI) ∧ Off1 I all.dropLast ∧ ∀ h'' tk'', Fr h₀ L h'' m' → News h₀ L h'' all.dropLast → Q .next { s₀ with heap := h'', toks := tk'' }
theorem OneEnd.next {L I : Addr} {oI : Obj} {h' : Heap} {tk' : Nat} {m' : FMap} {all : List (Addr × Obj)} (F : Fr h₀ L h' m') (N : News h₀ L h' all) (hl : all.getLast? = some (I, oI)) (ho : Off1 I all.dropLast)
    (k : ∀ h'' tk'', Fr h₀ L h'' m' → News h₀ L h'' all.dropLast → Q .next { s with heap := h'', toks := tk'' }) : OneEnd h₀ L I oI Q s .next { s with heap := h', toks := tk' } := ⟨h', tk', m', all, rfl, F, N, hl, ho, k⟩
theorem iter_one {l : Addr} {v : Value} (hh : A.handled = none) (F : Fr h₀ env.locals s.heap m) (N : News h₀ env.locals s.heap news) (hl : h₀.IsList l [v].toArray)
    (turn : ∀ h tk I oI, Fr h₀ env.locals h m → News h₀ env.locals h (news ++ [(I, oI)]) → Off1 I news →
      wpAny (model prog w) A (assign target env v) (fun _ s₄ => wpAny (model prog w) A (execs body env) (OneEnd h₀ env.locals I oI Q s) (notedBy (model prog w) A env (cameBackBy (model prog w) A env E)) s₄) (notedBy (model prog w) A env (cameBackBy (model prog w) A env E)) { s with heap := h, toks := tk }) :
    wpAny (model prog w) A (pyIter (.ref l)) (fun it s₂ => codeAny (model prog w) A (.forLoop target it body [] env) (fun r s' => match r with | .ok f => Q f s' | .error e => cameBackBy (model prog w) A env E e s') s₂) E s := by
  refine iter_L (vs := [v]) (fun i m₁ news₁ => (i = 0 → m₁ = m ∧ news₁ = news) ∧ (i = 1 → ∀ h'' tk'', Fr h₀ env.locals h'' m₁ → News h₀ env.locals h'' news₁ → Q .next { s with heap := h'', toks := tk'' })) hh F N (.inl hl) ⟨fun _ => ⟨rfl, rfl⟩, fun h => by cases h⟩ ?_ ?_
  · intro i v' m₁ news₁ h tk I oI hv hj _ F₁ N₁ off
    have hi : i = 0 := by
      cases i with
      | zero => rfl
      | succ i => simp at hv
    subst hi
    obtain ⟨rfl, rfl⟩ := hj.1 rfl
    have : v' = v := by simpa using hv.symm
    subst this
    refine wpAny_mono (turn h tk I oI F₁ (fun p hp => N₁ p (by
      rcases List.mem_append.mp hp with hp | hp
      · exact .tail _ hp
      · rw [List.mem_singleton.mp hp]; exact .head _)) (off1_of off)) (fun _ s₄ h₄ => wpAny_mono h₄ (fun f s₅ h₅ => ?_) fun _ _ z => z) fun _ _ z => z
    cases f with
    | ret v => exact h₅
    | brk => exact h₅
    | next =>
      obtain ⟨h', tk', m', all, rfl, F', N', hlast, ho, k⟩ := h₅
      refine ⟨h', tk', m', all.dropLast, rfl, F', fun p hp => ?_, off1_mem ho, .inl hl, fun h => (by cases h), fun _ => k⟩
      rcases List.mem_cons.mp hp with rfl | hp
      · exact N' _ (List.mem_of_getLast? hlast)
      · exact N' p ((List.dropLast_sublist all).subset hp)
    | cont =>
      obtain ⟨h', tk', m', all, rfl, F', N', hlast, ho, k⟩ := h₅
      refine ⟨h', tk', m', all.dropLast, rfl, F', fun p hp => ?_, off1_mem ho, .inl hl, fun h => (by cases h), fun _ => k⟩
      rcases List.mem_cons.mp hp with rfl | hp
      · exact N' _ (List.mem_of_getLast? hlast)
      · exact N' p ((List.dropLast_sublist all).subset hp)
  · intro m₁ news₁ h tk hj F₁ N₁
    exact hj.2 rfl h tk F₁ N₁
end
end
section
open PySem PySem.W PyProof.Rows PySem.Calls PySem.SeqAt PySem.Spec PyProof.Rows.LCg
set_option maxRecDepth 100000
set_option maxHeartbeats 1000000
section
variable {prog : Program} {w : World} {A : Around} {E : Value → Shared → Prop} {s : Shared} {h₀ : Heap} {L D b : Addr} {m : PySem.Str → Option Value} {news : List (Addr × Obj)} {vs ws : List Value} {n n2 : Nat} {gg : Obj → List (Addr × Obj)} {Q : Value → Shared → Prop}
theorem append_L {x : Value} (F : Fr h₀ L s.heap m) (N : News h₀ L s.heap news) (U : UpdF D (listOf vs.toArray n) news gg) (hz : vs.length ≤ sizeLine)
    (h : ∀ h' n', Fr h₀ L h' m → News h₀ L h' (gg (listOf (vs ++ [x]).toArray n')) → Q .none { s with heap := h' }) : wpAny (model prog w) A (call (.builtin "list.append") [.ref D, x]) Q E s := by
  refine byNo fun hno => ?_
  obtain ⟨pre, post, rfl, hg, a, c⟩ := U.split
  refine hno ?_
  clear hno
  have z := N (D, listOf vs.toArray n) (List.mem_append.mpr (.inr (.head _)))
  refine append_at (hsz := by rw [List.size_toArray]; exact hz) z.1 fun h' hs ho' => h h' (n + 1) (F.change hs z.2.1 z.2.2) ?_
  rw [hg]
  rw [List.push_toArray] at ho'
  exact news_set N a c hs ho'
theorem extend_L (F : Fr h₀ L s.heap m) (N : News h₀ L s.heap news) (hb : s.heap.get? b = some (listOf ws.toArray n2)) (U : UpdF D (listOf vs.toArray n) news gg) (hz : vs.length ≤ 1000) (hz2 : ws.length ≤ 1000)
    (h : ∀ h' n', Fr h₀ L h' m → News h₀ L h' (gg (listOf (vs ++ ws).toArray n')) → Q .none { s with heap := h' }) : wpAny (model prog w) A (call (.builtin "list.extend") [.ref D, .ref b]) Q E s := by
  refine byNo fun hno => ?_
  obtain ⟨pre, post, rfl, hg, a, c⟩ := U.split
  refine hno ?_
  clear hno
  have z := N (D, listOf vs.toArray n) (List.mem_append.mpr (.inr (.head _)))
  have hd : ¬(!vs.toArray.isEmpty && Builtin.List.listTooLong (vs.toArray.size + ws.toArray.size)) = true := by
    simp only [List.size_toArray, Builtin.List.listTooLong]
    simp [sizeLine_eq]
    intros; omega
  refine call_meets PySem.F.slot_list_extend ⟨_, z.1, rfl⟩ PySem.F.entry_list_extend (PySem.F.args_list_extend_2 _ _) (PySem.AutoSeq1.list_extend_list_list_0 D vs.toArray n b ws.toArray n2 hd (by simp [sizeLine_eq]; omega) (by simp [sizeLine_eq]; omega)) ⟨z.1, hb, ?_⟩
  have Fc : Fr h₀ L (s.heap.update D (Obj.mapSeq fun x => x ++ ws.toArray)) m := F.change (Heap.SameBut.update ..) z.2.1 z.2.2
  cases ws with
  | nil =>
    refine h _ n Fc ?_
    rw [hg]
    exact kl_turn0 (its := vs.toArray) (fun x => x ++ #[]) N a c (by simp) (by simp)
  | cons x r =>
    refine h _ (n + 1) Fc ?_
    rw [hg]
    exact kl_turn (its := vs.toArray) (fun y => y ++ (x :: r).toArray) N a c (by simp) (by simp)
end
end
set_option maxHeartbeats 1000000

noncomputable abbrev tupOb (vs : List Value) (n : Nat) : Obj := { cls := .type "tuple", data := .seq vs.toArray n }
noncomputable def VarR (R : Addr → Obj → Prop) (v : Value) (ys : List PySem.Str) : Prop :=
  (v = .none ∧ ys = []) ∨ (∃ a t n1 l1 n2 t2 n3 c1 c2 n4 rv, v = .ref a ∧ R a (tupOb [.str (Str.ofString "a") t, .ref l1] n1) ∧ R l1 (listOf #[.ref t2] n2) ∧ R t2 (tupOb [.ref c1, .ref c2, .none] n3) ∧ R c2 (listOf [rv].toArray n4) ∧ RowV R rv (Str.ofString "v") ∧ ys = [Str.ofString "v"])
theorem VarR.mono {R R' : Addr → Obj → Prop} {v : Value} {ys : List PySem.Str} (h : VarR R v ys) (k : ∀ a o, R a o → R' a o) : VarR R' v ys := by
  rcases h with h | ⟨a, t, n1, l1, n2, t2, n3, c1, c2, n4, rv, h1, h2, h3, h4, h5, h6, h7⟩
  · exact .inl h
  · exact .inr ⟨a, t, n1, l1, n2, t2, n3, c1, c2, n4, rv, h1, k _ _ h2, k _ _ h3, k _ _ h4, k _ _ h5, h6.mono k, h7⟩
theorem tup_item {prog : Program} {w : World} {A : Around} {E : Value → Shared → Prop} {s : Shared} {value slice : PySem.Expr} {t : Addr} {l : List Value} {n k : Nat} {u : Tok} {x : Value} {Q : Value → Shared → Prop} (ht : s.heap.get? t = some (tupOb l n)) (hx : l[k]? = some x) (h : Q x s)
    (hs : subscripted slice false (.ref t) (.int ((k : Nat) : Int) u) = operate [.ref t, .int ((k : Nat) : Int) u] (getItem (.ref t) (.int ((k : Nat) : Int) u))) (hk : k < 1000 := by decide) :
    wpAny (model prog w) A (subscriptTail value slice (.ref t) (.int ((k : Nat) : Int) u)) Q E s := by
  have hl : k < l.length := (List.getElem?_eq_some_iff.mp hx).1
  refine item_tupleT (l := l) (j := k) ⟨_, ht, rfl, n, rfl⟩ (by omega) (by omega) ?_ hx h hs
  unfold seqIndex?
  have e0 : ¬ (((k : Nat) : Int) < 0) := by omega
  rw [if_neg e0, if_pos (by simp; omega)]
  simp
local macro_rules | `(tactic| k_search 1) => `(tactic| first | exact trivial | exact all_o1 (by with_reducible assumption) (fun x => x) | exact all_l1 (by with_reducible assumption) (fun x => x) | exact ⟨by k_ne, by k_search 1⟩)
section

theorem varnames_spec (w : World) (mean mg mb) (v : Value) (ys : List PySem.Str) :
    Spec w mean mg mb 77 [v] 30 2000 [] (fun h => VarR (At h) v ys) (NamesPost ys) := by
  refine spec_enter [(Str.ofString "variant", v)] (by k_is) (by k_is) (fun _ => BindsTo.of_eq rfl) (locs rfl) rfl rfl rfl (by decide) ?_
  intro dp un gd env outer base g L' h₁ s tk₀ hd hu hP G F N B X Tp
  have hP' : VarR (At g) v ys := hP.mono fun a o e => G a o e (by simp)
  clear hP
  rcases hP' with ⟨rfl, rfl⟩ | ⟨a, t, n1, l1, n2, t2, n3, c1, c2, n4, rv, rfl, h2, h3, h4, h5, h6, rfl⟩
  · skip
    k_with_none
    (try k_unmd); (try dsimp only); (try k_fold)
    focus
      iterate 24 ((try dsimp only); walk1)
      ((try dsimp only); refine ne_empty (by first | exact Heap.IsList.at (by assumption) (fun o e => Fr.keep (by assumption) _ o e) | exact isListOf (News.get (by assumption) (by k_search 3))) (isListOf (News.get (by assumption) (by k_search 3))) (by k_search 2) ?_)
      iterate 28 ((try dsimp only); walk1)
      ((try dsimp only); refine ne_empty (by first | exact Heap.IsList.at (by assumption) (fun o e => Fr.keep (by assumption) _ o e) | exact isListOf (News.get (by assumption) (by k_search 3))) (isListOf (News.get (by assumption) (by k_search 3))) (by k_search 2) ?_)
      iterate 6 ((try dsimp only); walk1)
      (k_unfold; (try dsimp only))
    exact Done.last (by assumption) (by assumption) rfl ⟨_, [], _, rfl, rfl, .nil⟩
  · have l5 : g.IsList c2 [rv].toArray := isListOf h5
    have r5 : RowsR (At g) [rv] [Str.ofString "v"] := RowsR.snoc RowsR.nil h6
    k_with_none
    (try k_unmd); (try dsimp only); (try k_fold)
    focus
      iterate 24 ((try dsimp only); walk1)
      ((try dsimp only); refine ne_empty (by first | exact Heap.IsList.at (by assumption) (fun o e => Fr.keep (by assumption) _ o e) | exact isListOf (News.get (by assumption) (by k_search 3))) (isListOf (News.get (by assumption) (by k_search 3))) (by k_search 2) ?_)
      iterate 21 ((try dsimp only); walk1)
      ((try dsimp only); refine For_of ?_)
      iterate 3 ((try dsimp only); walk1)
      ((try dsimp only); refine tup_item (Fr.keep (by assumption) _ _ (by assumption)) rfl ?_ (by with_unfolding_all rfl))
      ((try dsimp only); refine iter_one rfl (by assumption) (by assumption) (isListOf (by assumption)) ?_; (intro _ _ _ _ _ N' y6; (try dsimp only [List.cons_append, List.nil_append] at N'); revert N' y6; intro _ _))
      ((try dsimp only); refine unpackN_ (by assumption) (by assumption) (by first | exact ⟨_, Fr.keep (by assumption) _ _ (by assumption), rfl, _, rfl⟩ | exact ⟨_, News.get (by assumption) (by k_search 3), rfl, _, rfl⟩) rfl rfl rfl ?_; (intro _ _ _))
      ((try dsimp only); walk1)
      ((try dsimp only); refine wpAny_assign_Name ?_)
      iterate 2 ((try dsimp only); walk1)
      ((try dsimp only); refine wpAny_assign_Name ?_)
      iterate 2 ((try dsimp only); walk1)
      ((try dsimp only); refine wpAny_assign_Name ?_)
      iterate 10 ((try dsimp only); walk1)
      ((try dsimp only); refine rows_comp (by assumption) rfl rfl (by decide) rfl (by decide) (by decide) (by decide) ?_)
      ((try dsimp only); walk1)
      (((with_reducible show RowsSrc _ _ _ _ _ _); first | refine rowsSrc_base (by assumption) (by assumption) (by with_reducible assumption) (by k_search 5) (by k_search 4) ?_ | refine rowsSrc_led (by assumption) (by assumption) (by k_search 3) (by k_search 5) (by k_search 4) ?_); (intro _ _ _ _ hw y5 y6 y7; (have hwl := StrsAre.length hw); (try simp only [List.length_cons, List.length_nil, List.length_drop, List.length_append] at hwl); revert hw y5 y6 y7 hwl; intro _ _ _ _ _))
      ((try dsimp only); walk1)
      ((try dsimp only); refine' extend_L ?F ?N ?B ?U ?z ?y ?_; (case F => assumption); (case N => assumption); (case B => exact News.get (by assumption) (by k_search 3)); (case U => k_updF); (case z => k_search 4); (case y => k_search 4); (intro _ _ _ N'; (try dsimp only [List.cons_append, List.nil_append] at N'); revert N'; intro _))
      iterate 9 ((try dsimp only); walk1)
      ((try dsimp only); refine' append_L ?F ?N ?U ?z ?_; (case F => assumption); (case N => assumption); (case U => k_updF); (case z => k_search 4); (intro _ _ _ N'; (try dsimp only [List.cons_append, List.nil_append] at N'); revert N'; intro _))
      ((try dsimp only); walk1)
      (((with_reducible show OneEnd _ _ _ _ _ _ _ _); refine OneEnd.next (by assumption) (by assumption) rfl (by k_search 1) ?_; (intro _ _ _ N'; dsimp only [List.dropLast] at N'; revert N'; intro _)))
      iterate 8 ((try dsimp only); walk1)
      ((try dsimp only); refine ne_empty (by first | exact Heap.IsList.at (by assumption) (fun o e => Fr.keep (by assumption) _ o e) | exact isListOf (News.get (by assumption) (by k_search 3))) (isListOf (News.get (by assumption) (by k_search 3))) (by k_search 2) ?_)
      iterate 28 ((try dsimp only); walk1)
      ((try dsimp only); refine ne_empty (by first | exact Heap.IsList.at (by assumption) (fun o e => Fr.keep (by assumption) _ o e) | exact isListOf (News.get (by assumption) (by k_search 3))) (isListOf (News.get (by assumption) (by k_search 3))) (by k_search 2) ?_)
      iterate 6 ((try dsimp only); walk1)
      (k_unfold; (try dsimp only))
    exact Done.last (by assumption) (by assumption) rfl ⟨_, _, _, rfl, rfl, by assumption⟩
end
section
open PySem PySem.W PyProof.Rows PySem.Calls PySem.SeqAt PySem.Spec PyProof.Rows.LCg
set_option maxRecDepth 100000
set_option maxHeartbeats 1000000
theorem map_again {x : PySem.Str} {a b : Option Value} {m : FMap} : (fun y => if y = x then a else (fun y => if y = x then b else m y) y) = (fun y => if y = x then a else m y) := by
  funext y
  by_cases h : y = x <;> simp [h]
theorem map_same {x : PySem.Str} {m : FMap} : m = (fun y => if y = x then m x else m y) := by
  funext y
  by_cases h : y = x <;> simp [h]
theorem updF_adr {d : Addr} {o : Obj} {news : List (Addr × Obj)} {gg : Obj → List (Addr × Obj)} (U : UpdF d o news gg) (a b : Obj) : adrs (gg a) = adrs (gg b) := by
  refine byNo fun hno => ?_
  obtain ⟨pre, post, -, hg, -, -⟩ := U.split
  refine hno ?_
  clear hno
  rw [hg, hg]; simp [adrs]
theorem updF_start {d : Addr} {o : Obj} {news : List (Addr × Obj)} {gg : Obj → List (Addr × Obj)} (U : UpdF d o news gg) : news = gg o := by
  obtain ⟨pre, post, e, hg, -, -⟩ := U.split
  rw [hg, e]
theorem off_adr {I : Addr} {a b : List (Addr × Obj)} (e : adrs a = adrs b) (h : ∀ p ∈ a, @Ne Nat p.1 I) : ∀ p ∈ b, @Ne Nat p.1 I := fun p hp => by
  have hm : p.1 ∈ adrs a := e ▸ List.mem_map_of_mem hp
  obtain ⟨q, hq, e2⟩ := List.mem_map.mp hm
  rw [← e2]; exact h q hq
section
variable {prog : Program} {w : World} {A : Around} {E : Value → Shared → Prop} {s : Shared} {h₀ : Heap} {m : FMap} {env : Env} {news : List (Addr × Obj)} {target : PySem.Expr} {body : List Stmt} {Q : Flow → Shared → Prop}
noncomputable def UpdEnd (h₀ : Heap) (L : Addr) (I : Addr) (oI : Obj) (x : PySem.Str) (m : FMap) (gg : Obj → List (Addr × Obj)) (Kn : Obj → Prop) (Q : Flow → Shared → Prop) (s₀ : Shared) (f : Flow) (s₃ : Shared) : Prop :=
  match f with
  | .ret v => Q (.ret v) s₃
  | .brk => Q .next s₃
  | _ => ∃ h' tk' ov o', s₃ = { s₀ with heap := h', toks := tk' } ∧ Fr h₀ L h' (fun y => if y = x then ov else m y) ∧ News h₀ L h' (gg o' ++ [(I, oI)]) ∧ Kn o'
theorem UpdEnd.next {L I : Addr} {oI o' : Obj} {x : PySem.Str} {gg : Obj → List (Addr × Obj)} {Kn : Obj → Prop} {h' : Heap} {tk' : Nat} {a b : Option Value} (F : Fr h₀ L h' (fun y => if y = x then a else (fun y => if y = x then b else m y) y)) (N : News h₀ L h' (gg o' ++ [(I, oI)])) (k : Kn o') :
    UpdEnd h₀ L I oI x m gg Kn Q s .next { s with heap := h', toks := tk' } := ⟨h', tk', a, o', rfl, map_again ▸ F, N, k⟩
theorem UpdEnd.cont {L I : Addr} {oI o' : Obj} {x : PySem.Str} {gg : Obj → List (Addr × Obj)} {Kn : Obj → Prop} {h' : Heap} {tk' : Nat} {a b : Option Value} (F : Fr h₀ L h' (fun y => if y = x then a else (fun y => if y = x then b else m y) y)) (N : News h₀ L h' (gg o' ++ [(I, oI)])) (k : Kn o') :
    UpdEnd h₀ L I oI x m gg Kn Q s .cont { s with heap := h', toks := tk' } := ⟨h', tk', a, o', rfl, map_again ▸ F, N, k⟩

theorem iter_upd {l kd : Addr} {vs : List Value} {x : PySem.Str} {o₀ : Obj} {gg : Obj → List (Addr × Obj)} (K : Nat → Obj → Prop) (hh : A.handled = none) (F : Fr h₀ env.locals s.heap m) (N : News h₀ env.locals s.heap news) (U : UpdF kd o₀ news gg)
    (hS : ∀ o, SrcAt h₀ l vs.toArray (gg o)) (h0 : K 0 o₀)
    (turn : ∀ i v ov o h tk I oI, vs[i]? = some v → K i o → Fr h₀ env.locals h (fun y => if y = x then ov else m y) → News h₀ env.locals h (gg o ++ [(I, oI)]) → Off1 I (gg o) →
      wpAny (model prog w) A (assign target env v) (fun _ s₄ => wpAny (model prog w) A (execs body env) (UpdEnd h₀ env.locals I oI x m gg (K (i + 1)) Q s) (notedBy (model prog w) A env (cameBackBy (model prog w) A env E)) s₄) (notedBy (model prog w) A env (cameBackBy (model prog w) A env E)) { s with heap := h, toks := tk })
    (done : ∀ ov o h tk, K vs.length o → Fr h₀ env.locals h (fun y => if y = x then ov else m y) → News h₀ env.locals h (gg o) → Q .next { s with heap := h, toks := tk }) :
    wpAny (model prog w) A (pyIter (.ref l)) (fun it s₂ => codeAny (model prog w) A (.forLoop target it body [] env) (fun r s' => match r with | .ok f => Q f s' | .error e => cameBackBy (model prog w) A env E e s') s₂) E s := by
  have e0 := updF_start U
  refine iter_L (vs := vs) (fun i m₁ news₁ => ∃ ov o, m₁ = (fun y => if y = x then ov else m y) ∧ news₁ = gg o ∧ K i o) hh F N (e0 ▸ hS o₀) ⟨m x, o₀, map_same, e0, h0⟩ ?_ ?_
  · rintro i v m₁ news₁ h tk I oI hv ⟨ov, o, rfl, rfl, hk⟩ _ F₁ N₁ off
    refine wpAny_mono (turn i v ov o h tk I oI hv hk F₁ (fun p hp => N₁ p (by
      rcases List.mem_append.mp hp with hp | hp
      · exact .tail _ hp
      · rw [List.mem_singleton.mp hp]; exact .head _)) (off1_of off)) (fun _ s₄ h₄ => wpAny_mono h₄ (fun f s₅ h₅ => ?_) fun _ _ z => z) fun _ _ z => z
    have fin : ∀ s₅, (∃ h' tk' ov o', s₅ = { s with heap := h', toks := tk' } ∧ Fr h₀ env.locals h' (fun y => if y = x then ov else m y) ∧ News h₀ env.locals h' (gg o' ++ [(I, oI)]) ∧ K (i + 1) o') →
        ∃ h' tk' m' news', s₅ = { s with heap := h', toks := tk' } ∧ Fr h₀ env.locals h' m' ∧ News h₀ env.locals h' ((I, oI) :: news') ∧ (∀ p ∈ news', p.1 ≠ I) ∧ SrcAt h₀ l vs.toArray news' ∧ ∃ ov o, m' = (fun y => if y = x then ov else m y) ∧ news' = gg o ∧ K (i + 1) o := by
      intro s₅ hq1
      refine byNo fun hno => ?_
      obtain ⟨h', tk', ov', o', rfl, F', N', hk'⟩ := hq1
      refine hno ?_
      clear hno
      refine ⟨h', tk', _, gg o', rfl, F', fun p hp => N' p ?_, off_adr (updF_adr U o o') off, hS o', ov', o', rfl, rfl, hk'⟩
      rcases List.mem_cons.mp hp with rfl | hp
      · exact List.mem_append_right _ (.head _)
      · exact List.mem_append_left _ hp
    cases f with
    | ret v => exact h₅
    | brk => exact h₅
    | next => exact fin _ h₅
    | cont => exact fin _ h₅
  · rintro m₁ news₁ h tk ⟨ov, o, rfl, rfl, hk⟩ F₁ N₁
    exact done ov o h tk hk F₁ N₁

theorem iter_updN (y : PySem.Str) {l kd : Addr} {vs : List Value} {x : PySem.Str} {o₀ : Obj} {gg : Obj → List (Addr × Obj)} (K : Nat → Obj → Prop) (hy : m y = some (.ref kd)) (hh : A.handled = none) (F : Fr h₀ env.locals s.heap m) (N : News h₀ env.locals s.heap news) (U : UpdF kd o₀ news gg)
    (hS : ∀ o, SrcAt h₀ l vs.toArray (gg o)) (h0 : K 0 o₀)
    (turn : ∀ i v ov o h tk I oI, vs[i]? = some v → K i o → Fr h₀ env.locals h (fun y => if y = x then ov else m y) → News h₀ env.locals h (gg o ++ [(I, oI)]) → Off1 I (gg o) →
      wpAny (model prog w) A (assign target env v) (fun _ s₄ => wpAny (model prog w) A (execs body env) (UpdEnd h₀ env.locals I oI x m gg (K (i + 1)) Q s) (notedBy (model prog w) A env (cameBackBy (model prog w) A env E)) s₄) (notedBy (model prog w) A env (cameBackBy (model prog w) A env E)) { s with heap := h, toks := tk })
    (done : ∀ ov o h tk, K vs.length o → Fr h₀ env.locals h (fun y => if y = x then ov else m y) → News h₀ env.locals h (gg o) → Q .next { s with heap := h, toks := tk }) :
    wpAny (model prog w) A (pyIter (.ref l)) (fun it s₂ => codeAny (model prog w) A (.forLoop target it body [] env) (fun r s' => match r with | .ok f => Q f s' | .error e => cameBackBy (model prog w) A env E e s') s₂) E s :=
  let _ := hy; iter_upd K hh F N U hS h0 turn done

noncomputable def SameEnd (h₀ : Heap) (L : Addr) (I : Addr) (oI : Obj) (x : PySem.Str) (m : FMap) (news : List (Addr × Obj)) (Kn : Prop) (Q : Flow → Shared → Prop) (s₀ : Shared) (f : Flow) (s₃ : Shared) : Prop :=
  match f with
  | .ret v => Q (.ret v) s₃
  | .brk => Q .next s₃
  | _ => ∃ h' tk' ov, s₃ = { s₀ with heap := h', toks := tk' } ∧ Fr h₀ L h' (fun y => if y = x then ov else m y) ∧ News h₀ L h' (news ++ [(I, oI)]) ∧ Kn
theorem SameEnd.next {L I : Addr} {oI : Obj} {x : PySem.Str} {Kn : Prop} {h' : Heap} {tk' : Nat} {a b : Option Value} (F : Fr h₀ L h' (fun y => if y = x then a else (fun y => if y = x then b else m y) y)) (N : News h₀ L h' (news ++ [(I, oI)])) (k : Kn) :
    SameEnd h₀ L I oI x m news Kn Q s .next { s with heap := h', toks := tk' } := ⟨h', tk', a, rfl, map_again ▸ F, N, k⟩
theorem iter_same {l : Addr} {vs : List Value} {x : PySem.Str} (K : Nat → Prop) (hh : A.handled = none) (F : Fr h₀ env.locals s.heap m) (N : News h₀ env.locals s.heap news)
    (hS : SrcAt h₀ l vs.toArray news) (h0 : K 0)
    (turn : ∀ i v ov h tk I oI, vs[i]? = some v → K i → Fr h₀ env.locals h (fun y => if y = x then ov else m y) → News h₀ env.locals h (news ++ [(I, oI)]) → Off1 I news →
      wpAny (model prog w) A (assign target env v) (fun _ s₄ => wpAny (model prog w) A (execs body env) (SameEnd h₀ env.locals I oI x m news (K (i + 1)) Q s) (notedBy (model prog w) A env (cameBackBy (model prog w) A env E)) s₄) (notedBy (model prog w) A env (cameBackBy (model prog w) A env E)) { s with heap := h, toks := tk })
    (done : ∀ ov h tk, K vs.length → Fr h₀ env.locals h (fun y => if y = x then ov else m y) → News h₀ env.locals h news → Q .next { s with heap := h, toks := tk }) :
    wpAny (model prog w) A (pyIter (.ref l)) (fun it s₂ => codeAny (model prog w) A (.forLoop target it body [] env) (fun r s' => match r with | .ok f => Q f s' | .error e => cameBackBy (model prog w) A env E e s') s₂) E s := by
  refine iter_L (vs := vs) (fun i m₁ news₁ => ∃ ov, m₁ = (fun y => if y = x then ov else m y) ∧ news₁ = news ∧ K i) hh F N hS ⟨m x, map_same, rfl, h0⟩ ?_ ?_
  · rintro i v m₁ news₁ h tk I oI hv ⟨ov, rfl, rfl, hk⟩ _ F₁ N₁ off
    refine wpAny_mono (turn i v ov h tk I oI hv hk F₁ (fun p hp => N₁ p (by
      rcases List.mem_append.mp hp with hp | hp
      · exact .tail _ hp
      · rw [List.mem_singleton.mp hp]; exact .head _)) (off1_of off)) (fun _ s₄ h₄ => wpAny_mono h₄ (fun f s₅ h₅ => ?_) fun _ _ z => z) fun _ _ z => z
    have fin : ∀ s₅, (∃ h' tk' ov, s₅ = { s with heap := h', toks := tk' } ∧ Fr h₀ env.locals h' (fun y => if y = x then ov else m y) ∧ News h₀ env.locals h' (news₁ ++ [(I, oI)]) ∧ K (i + 1)) →
        ∃ h' tk' m' news', s₅ = { s with heap := h', toks := tk' } ∧ Fr h₀ env.locals h' m' ∧ News h₀ env.locals h' ((I, oI) :: news') ∧ (∀ p ∈ news', p.1 ≠ I) ∧ SrcAt h₀ l vs.toArray news' ∧ ∃ ov, m' = (fun y => if y = x then ov else m y) ∧ news' = news₁ ∧ K (i + 1) := by
      intro s₅ hq1
      refine byNo fun hno => ?_
      obtain ⟨h', tk', ov', rfl, F', N', hk'⟩ := hq1
      refine hno ?_
      clear hno
      refine ⟨h', tk', _, news₁, rfl, F', fun p hp => N' p ?_, off, hS, ov', rfl, rfl, hk'⟩
      rcases List.mem_cons.mp hp with rfl | hp
      · exact List.mem_append_right _ (.head _)
      · exact List.mem_append_left _ hp
    cases f with
    | ret v => exact h₅
    | brk => exact h₅
    | next => exact fin _ h₅
    | cont => exact fin _ h₅
  · rintro m₁ news₁ h tk ⟨ov, rfl, rfl, hk⟩ F₁ N₁
    exact done ov h tk hk F₁ N₁
end
end
section
open PySem PySem.W PyProof.Rows PySem.Calls PySem.SeqAt PySem.Spec PyProof.Rows.LCg
set_option maxRecDepth 100000
set_option maxHeartbeats 1000000
noncomputable def FlagD (prog : Program) (w : World) (o : Obj) (xs : List PySem.Str) : Prop := o.IsDictOf (strKind prog w) (xs.map fun x => (x, Value.bool true))
theorem valueAt_flag {xs : List PySem.Str} {x : PySem.Str} : (valueAt (xs.map fun x => (x, Value.bool true)) x).isSome = decide (x ∈ xs) := by
  unfold valueAt
  rw [Option.isSome_map, Bool.eq_iff_iff, List.find?_isSome, decide_eq_true_iff]
  constructor
  · rintro ⟨p, hp, e⟩
    obtain ⟨y, hy, rfl⟩ := List.mem_map.mp hp
    have : y = x := by simpa using e
    exact this ▸ hy
  · intro h
    exact ⟨(x, .bool true), List.mem_map.mpr ⟨x, h, rfl⟩, by simp⟩
theorem stored_flag {xs : List PySem.Str} {x : PySem.Str} (h : x ∉ xs) : stored (xs.map fun x => (x, Value.bool true)) x (.bool true) = (xs ++ [x]).map fun x => (x, Value.bool true) := by
  unfold stored
  rw [if_neg]
  · simp
  · rw [List.any_eq_true]
    rintro ⟨p, hp, e⟩
    obtain ⟨y, hy, rfl⟩ := List.mem_map.mp hp
    have : y = x := by simpa using e
    exact h (this ▸ hy)
section
variable {prog : Program} {w : World} {A : Around} {E : Value → Shared → Prop} {s : Shared} {h₀ : Heap} {L d : Addr} {news : List (Addr × Obj)} {x : PySem.Str} {t : Tok} {o : Obj} {m : PySem.Str → Option Value} {g : Obj → List (Addr × Obj)} {xs : List PySem.Str}
theorem in_flag {Q : Value → Shared → Prop} (N : News h₀ L s.heap news) (hm : (d, o) ∈ news) (hd : FlagD prog w o xs) (hs : (d == sysModules) = false) (h : ∀ tk, Q (.bool (decide (x ∈ xs))) { s with toks := tk }) :
    wpAny (model prog w) A (compareOp .In (.str x t) (.ref d)) Q E s := by
  refine wpAny_in_of (strKind_is prog w x t) hs (news_dictOf N hm hd).mapOf ?_
  rw [valueAt_flag]
  exact h _
theorem set_flag {Q : Unit → Shared → Prop} (F : Fr h₀ L s.heap m) (N : News h₀ L s.heap news) (U : UpdF d o news g) (hd : FlagD prog w o xs) (hx : x ∉ xs) (hz : xs.length ≤ 10000)
    (h : ∀ h' o' tk, Fr h₀ L h' m → News h₀ L h' (g o') → FlagD prog w o' (xs ++ [x]) → Q () { s with heap := h', toks := tk }) :
    wpAny (model prog w) A (setItem (.ref d) (.str x t) (.bool true)) Q E s :=
  setItem_dict F N U hd (stored_flag hx) h (by rw [List.length_map, sizeLine_eq]; omega)
end
theorem nodup_snoc {α : Type} {xs : List α} {x : α} (h : xs.Nodup) (hx : x ∉ xs) : (xs ++ [x]).Nodup := by
  rw [List.nodup_append]
  exact ⟨h, by simp, fun a ha b hb => by rw [List.mem_singleton.mp hb]; rintro rfl; exact hx ha⟩
theorem take_snoc {α : Type} {xs : List α} {i : Nat} {x : α} (h : xs[i]? = some x) : xs.take (i + 1) = xs.take i ++ [x] := by
  rw [List.take_add_one, h]; rfl
theorem dup_of_mem {α : Type} {xs : List α} {i : Nat} {x : α} (h : xs[i]? = some x) (hm : x ∈ xs.take i) : ¬ xs.Nodup := fun hn => by
  have e : xs.take (i + 1) = xs.take i ++ [x] := take_snoc h
  have hs : (xs.take (i + 1)).Nodup := hn.sublist (List.take_sublist _ _)
  rw [e, List.nodup_append] at hs
  exact hs.2.2 x hm x (by simp) rfl
end
section
open PySem PySem.W PyProof.Rows PySem.Calls PySem.Spec
set_option maxRecDepth 100000
set_option maxHeartbeats 2000000
noncomputable def RaiseOk (C : Addr) (E : Value → Shared → Prop) (cls : Obj) (v : Value) (s₁ : Shared) : Prop :=
  ∃ e t dc sl, v = .ref e ∧ s₁.heap.get? C = some cls ∧ s₁.heap.get? e = some (excOb C dc (rawFs t) sl) ∧ E (.ref e) s₁
section
variable {w : World} {A : Around} {E : Value → Shared → Prop} {env : Env} {s : Shared} {h₀ : Heap} {L : Addr} {m : Str → Option Value} {news : List (Addr × Obj)}
noncomputable abbrev cls51 : Obj := excClassObj (Str.ofString "CheckFault") (Str.ofString "CheckFault") 51 50 [.ref 31] bm51 true [] [] false none none (some (.ref 35)) none (some (.str (Str.ofString "CheckFault") 218)) (some (.str (Str.ofString "CheckFault") 226)) (some (.bool true)) "Exception.__new__"
noncomputable abbrev cls70 : Obj := excClassObj (Str.ofString "AdaRaise") (Str.ofString "AdaRaise") 70 69 [.ref 31] bm51 true [] [] false none none (some (.ref 54)) none (some (.str (Str.ofString "AdaRaise") 244)) (some (.str (Str.ofString "AdaRaise") 252)) (some (.bool true)) "Exception.__new__"
theorem raise51 {ce : PySem.Expr} {pos : Pos} {Q : Flow → Shared → Prop} (hh : A.handled = none) (h : wpAny (model PySem.Challenge.rw_pb0010_01.row.prog w) A (eval ce env) (RaiseOk 51 E cls51) E s) :
    wpAny (model PySem.Challenge.rw_pb0010_01.row.prog w) A (exec (.Raise (some ce) none pos) env) Q E s :=
  x_Raise (C := 51) (bm := bm51) (by decide) hh h
theorem raise70 {ce : PySem.Expr} {pos : Pos} {Q : Flow → Shared → Prop} (hh : A.handled = none) (h : wpAny (model PySem.Challenge.rw_pb0010_01.row.prog w) A (eval ce env) (RaiseOk 70 E cls70) E s) :
    wpAny (model PySem.Challenge.rw_pb0010_01.row.prog w) A (exec (.Raise (some ce) none pos) env) Q E s :=
  x_Raise (C := 70) (bm := bm51) (by decide) hh h
theorem raiseOk51 {e d t : Addr} {rest : List (Addr × Obj)} (F : Fr h₀ L s.heap m) (X : (hd.heap_1 w.params).In h₀) (N : News h₀ L s.heap ((e, excOb 51 (some d) (rawFs t) #[]) :: rest)) (h : E (.ref e) s) : RaiseOk 51 E cls51 (.ref e) s :=
  ⟨e, t, _, _, rfl, (X.keeps F.keep) _ _ (l51 w), (N _ (.head _)).1, h⟩
theorem raiseOk70 {e d t : Addr} {rest : List (Addr × Obj)} (F : Fr h₀ L s.heap m) (X : (hd.heap_1 w.params).In h₀) (N : News h₀ L s.heap ((e, excOb 70 (some d) (rawFs t) #[]) :: rest)) (h : E (.ref e) s) : RaiseOk 70 E cls70 (.ref e) s :=
  ⟨e, t, _, _, rfl, (X.keeps F.keep) _ _ (l70 w), (N _ (.head _)).1, h⟩
end
section
variable {M : Model} {A A₀ : Around} {s : Shared} {base g h : Heap} {env : Env} {outer : List Env} {L e C d t : Addr} {od : Obj} {m : Str → Option Value} {news : List (Addr × Obj)} {sl : Array (Option Value)} {RPost : Obj → Prop} {tk : Nat}
theorem lost_here (B : Below A₀ base outer g) (F : Fr g L h m) (N : News g L h ((e, excOb C (some d) (rawFs t) sl) :: (d, od) :: news)) (hne : e ≠ d) (hp : RPost od) (hf : env.frame = some L) (hk : env.scope.kind = .function) :
    LostR s base g (env :: outer) L C RPost (.ref e) { s with heap := h, toks := tk } :=
  ⟨e, d, od, none, h, tk, rfl, rfl, Flown.start B F N hf hk rfl hne, .inl rfl, hp⟩
theorem lost_loop (hfr : A.frames = some (env :: outer)) (B : Below A₀ base outer g) (F : Fr g L h m) (N : News g L h ((e, excOb C (some d) (rawFs t) sl) :: (d, od) :: news)) (hne : e ≠ d) (hp : RPost od) (hf : env.frame = some L) (hk : env.scope.kind = .function) :
    notedBy M A env (cameBackBy M A env (fun ev s' => LostR s base g (env :: outer) L C RPost ev s')) (.ref e) { s with heap := h, toks := tk } :=
  Flown.pass (s := { s with heap := h, toks := tk }) hfr hf (Flown.start B F N hf hk rfl hne) (.inl rfl) fun h' Fl => ⟨e, d, od, some (rawInt L), h', tk, rfl, rfl, Fl, .inr (.inr rfl), hp⟩
theorem lost_call {H : Heap} (Fl : Flown base (env :: outer) H h e C d od (some .none)) (k : ∀ b o, g.get? b = some o → H.get? b = some o) (hp : RPost od) :
    LostR s base g (env :: outer) L C RPost (.ref e) { s with heap := h, toks := tk } :=
  ⟨e, d, od, some .none, h, tk, rfl, rfl, Fl.sub k, .inr (.inl rfl), hp⟩
end
section
variable {w : World} {mean : ExcName → Option Value} {mg mb : Str → Option Value} {f C : Addr} {args : List Value} {dep un₀ : Nat}
    {Pre : Heap → Prop} {Post : Value → List (Addr × Obj) → Prop} {RPost : Obj → Prop} {dp un : Nat} {gd : Option (List Code)} {env : Env} {outer : List Env} {A₀ : Around} {base h₀ : Heap} {L : Addr} {m : Str → Option Value} {s : Shared} {Q E : Value → Shared → Prop} {news : List (Addr × Obj)}
theorem SpecR.use (S : SpecR w mean mg mb f args dep un₀ C Pre Post RPost) (B : Below A₀ base outer h₀) (F : Fr h₀ L s.heap m) (X : (hd.heap_1 w.params).In h₀) (N : News h₀ L s.heap news) (T : TP mean mg mb h₀) (hf : env.frame = some L) (hk : env.scope.kind = .function)
    (hd : dp + dep < recursionLimit) (hu : un + un₀ < cLine) (hP : Pre s.heap)
    (ret : ∀ r new h' tk', Fr h₀ L h' m → News h₀ L h' (new ++ news) → (∀ q ∈ news, ∀ p ∈ new, q.1 ≠ p.1) → Post r new → Q r { s with heap := h', toks := tk' })
    (rais : ∀ e d od h' tk', Flown base (env :: outer) s.heap h' e C d od (some .none) → RPost od → E (.ref e) { s with heap := h', toks := tk' }) :
    wpAny (model PySem.Challenge.rw_pb0010_01.row.prog w) (topA dp un gd env outer) (call (.ref f) args) Q E s := by
  refine S dp un gd env outer A₀ base h₀ L m s Q E B F X T hf hk hd hu hP (fun r new h' tk' F' k Z hp => ?_) rais
  exact ret r new h' tk' F' (fun p hp => (List.mem_append.mp hp).elim (Z.ledger F p) ((N.grown k) p)) (Z.apart N) hp
theorem SpecC.use (S : SpecC w mean mg mb f args dep un₀ Pre Post) (B : Below A₀ h₀ [] h₀) (F : Fr h₀ L s.heap m) (X : (hd.heap_1 w.params).In h₀) (N : News h₀ L s.heap news) (T : TP mean mg mb h₀) (hf : env.frame = some L) (hk : env.scope.kind = .function)
    (hd : dp + dep < recursionLimit) (hu : un + un₀ < cLine) (hP : Pre s.heap)
    (ret : ∀ r new h' tk', Fr h₀ L h' m → News h₀ L h' (new ++ news) → (∀ q ∈ news, ∀ p ∈ new, q.1 ≠ p.1) → Post r new → Q r { s with heap := h', toks := tk' }) :
    wpAny (model PySem.Challenge.rw_pb0010_01.row.prog w) (topA dp un gd env []) (call (.ref f) args) Q E s := by
  refine S dp un gd env A₀ h₀ L m s Q E B F X T hf hk hd hu hP (fun r new h' tk' F' k Z hp => ?_)
  exact ret r new h' tk' F' (fun p hp => (List.mem_append.mp hp).elim (Z.ledger F p) (fun hp => ⟨k _ _ (N p hp).1 (N p hp).2.1, (N p hp).2⟩)) (Z.apart N) hp
end
end
section
open PySem PySem.W PyProof.Rows PySem.Calls PySem.Spec PySem.Builtin PySem.Builtin.ObjectAttr
set_option maxRecDepth 100000
set_option maxHeartbeats 2000000
section
variable {prog : Program} {w : World} {A : Around} {E : Value → Shared → Prop} {s : Shared} {K : Frag} {x C : Addr} {ox : Obj} {od : Option Obj} {name : Str} {expr : Bool} {Q : Value → Shared → Prop}
theorem exc_get {v : Value} (X : K.In s.heap) (I : InstAt s.heap x ox C od) (hga : findIn K (.ref C) "__getattribute__" = some (some (.builtin "BaseException.__getattribute__"))) (hgt : findIn K (.ref C) "__getattr__" = some none)
    (hsub : mroIn K C (.type "BaseException") = some true) (hf : findObj K C od name = some (.value v)) (hh : handedIn v = true) (h : Q v { s with toks := s.toks + 1 }) :
    wpAny (model prog w) A (getAttr (.ref x) name expr) Q E s := by
  obtain ⟨hp, g, d, t, os⟩ := s
  have L0 := I.type (M := model prog w)
  have L1 := looks_findIn (M := model prog w) X hga
  have L2 := looks_findIn (M := model prog w) X hgt
  have L3 := looks_find (M := model prog w) X I hf
  have LS : Looks (model prog w) hp (isInstance (.ref x) (.type "BaseException")) true := I.type.andThen (looks_mroIn X hsub)
  have hx2 : (onTheHeap (Value.ref C) && Value.builtin "BaseException.__getattribute__" == Value.builtin "object.__getattribute__") = false := by rw [show (Value.builtin "BaseException.__getattribute__" == Value.builtin "object.__getattribute__") = false from by decide +kernel, Bool.and_false]
  have hx0 : (expr && onTheHeap (Value.builtin "BaseException.__getattribute__")) = false := by cases expr <;> rfl
  unfold getAttr getAttrBy
  refine wpAny_bind (wpAny_mkText (wpAny_holding (wpAny_bind (L0.at (wpAny_bind (L1.at ?_))))))
  dsimp only
  rw [hx2, if_neg (by decide)]
  unfold getAttrByItsOwn hookBefore
  rw [if_pos (show onTheHeap (Value.ref C) = true by rfl)]
  have FA := PySem.F.attrBase_Exception
  refine wpAny_bind (L2.at (wpAny_bind (wpAny_attempt (wpAny_holding ?_))))
  unfold callGetattribute
  rw [hx0, if_neg (by decide)]
  unfold boundAndCalled
  rw [FA.ga.bind]
  refine wpAny_bind (wpAny_pure ?_)
  dsimp only
  have hk : builtinKind "BaseException.__getattribute__" = some .slot := by decide +kernel
  have hsp : splitId "BaseException.__getattribute__" = some ("BaseException", "__getattribute__") := by decide +kernel
  refine wpAny_call (codeAny_call_builtin FA.ga.plain PySem.F.entry_bexc_ga (@check_slot (model prog w) _ _ ⟨hp, g, d, t + 1, os⟩ "BaseException.__getattribute__" "BaseException" "__getattribute__" (.ref x) [.str name t] [] _ hk hsp LS (PySem.F.args_bexc_ga (.ref x) (.str name t)) ?_))
  have fin : wpAny (model prog w) A (handedOut v) Q E ⟨hp, g, d, t + 1, os⟩ := by rw [handedOut_of hh]; exact wpAny_pure h
  clear L1 L2 LS
  repeat (first | with_reducible exact fin | with_reducible refine L0.at ?_ | with_reducible refine L3.at ?_ | wp_step)
end
theorem ga51 (w : World) : findIn (hd.heap_1 w.params) (.ref 51) "__getattribute__" = some (some (.builtin "BaseException.__getattribute__")) := by k_is
theorem gt51 (w : World) : findIn (hd.heap_1 w.params) (.ref 51) "__getattr__" = some none := by k_is
theorem mr51 (w : World) : mroIn (hd.heap_1 w.params) 51 (.type "BaseException") = some true := by k_is
theorem hd51 (w : World) : hasDictIn (hd.heap_1 w.params) 51 = true := by k_is
theorem fi51 (w : World) : findIn (hd.heap_1 w.params) (.ref 51) (Str.ofString "line") = some none := by k_is
theorem ga70 (w : World) : findIn (hd.heap_1 w.params) (.ref 70) "__getattribute__" = some (some (.builtin "BaseException.__getattribute__")) := by k_is
theorem gt70 (w : World) : findIn (hd.heap_1 w.params) (.ref 70) "__getattr__" = some none := by k_is
theorem mr70 (w : World) : mroIn (hd.heap_1 w.params) 70 (.type "BaseException") = some true := by k_is
theorem hd70 (w : World) : hasDictIn (hd.heap_1 w.params) 70 = true := by k_is
theorem fi70 (w : World) : findIn (hd.heap_1 w.params) (.ref 70) (Str.ofString "line") = some none := by k_is
theorem fi70w (w : World) : findIn (hd.heap_1 w.params) (.ref 70) (Str.ofString "word") = some none := by k_is
noncomputable def FaultDict (w : World) (line : Value) (od : Obj) : Prop := ∃ k1 k2 text, od = dictOf [ent w "text" k1 text, ent w "line" k2 line] 2
noncomputable def RaiseDict (w : World) (name line : Value) (od : Obj) : Prop := ∃ k1 k2 k3 k4 text, od = dictOf [ent w "text" k1 text, ent w "name" k2 name, ent w "word" k3 name, ent w "line" k4 line] 4
section
variable {w : World} {A : Around} {E : Value → Shared → Prop} {s : Shared} {h₀ : Heap} {L e d : Addr} {m : Str → Option Value} {news : List (Addr × Obj)} {oe od : Obj} {vs : Array Value} {name line : Value} {expr : Bool} {Q : Value → Shared → Prop}
theorem exc_inst {C : Addr} (N : News h₀ L s.heap ((e, oe) :: (d, od) :: news)) (hc : oe.cls = .ref C) (hdc : oe.dict = some d) (hda : oe.data = .fields vs) : InstAt s.heap e oe C (some od) :=
  ⟨(N _ (.head _)).1, hc, by unfold notCls; rw [hda], by rw [hdc]; exact (N _ (.tail _ (.head _))).1⟩
theorem fault_line (F : Fr h₀ L s.heap m) (X : (hd.heap_1 w.params).In h₀) (N : News h₀ L s.heap ((e, oe) :: (d, od) :: news)) (hc : oe.cls = .ref 51) (hdc : oe.dict = some d) (hda : oe.data = .fields vs) (hd : FaultDict w line od) (hl : handedIn line = true)
    (h : Q line { s with toks := s.toks + 1 }) : wpAny (model PySem.Challenge.rw_pb0010_01.row.prog w) A (getAttr (.ref e) (Str.ofString "line") expr) Q E s := by
  have I := exc_inst N hc hdc hda
  refine byNo fun hno => ?_
  obtain ⟨k1, k2, text, rfl⟩ := hd
  refine hno ?_
  clear hno
  exact exc_get (X.keeps F.keep) I (ga51 w) (gt51 w) (mr51 w) (findObj_own (hd51 w) (fi51 w) rfl rfl) hl h
theorem raise_line (F : Fr h₀ L s.heap m) (X : (hd.heap_1 w.params).In h₀) (N : News h₀ L s.heap ((e, oe) :: (d, od) :: news)) (hc : oe.cls = .ref 70) (hdc : oe.dict = some d) (hda : oe.data = .fields vs) (hd : RaiseDict w name line od) (hl : handedIn line = true)
    (h : Q line { s with toks := s.toks + 1 }) : wpAny (model PySem.Challenge.rw_pb0010_01.row.prog w) A (getAttr (.ref e) (Str.ofString "line") expr) Q E s := by
  have I := exc_inst N hc hdc hda
  refine byNo fun hno => ?_
  obtain ⟨k1, k2, k3, k4, text, rfl⟩ := hd
  refine hno ?_
  clear hno
  exact exc_get (X.keeps F.keep) I (ga70 w) (gt70 w) (mr70 w) (findObj_own (hd70 w) (fi70 w) rfl rfl) hl h
theorem raise_word (F : Fr h₀ L s.heap m) (X : (hd.heap_1 w.params).In h₀) (N : News h₀ L s.heap ((e, oe) :: (d, od) :: news)) (hc : oe.cls = .ref 70) (hdc : oe.dict = some d) (hda : oe.data = .fields vs) (hd : RaiseDict w name line od) (hl : handedIn name = true)
    (h : Q name { s with toks := s.toks + 1 }) : wpAny (model PySem.Challenge.rw_pb0010_01.row.prog w) A (getAttr (.ref e) (Str.ofString "word") expr) Q E s := by
  have I := exc_inst N hc hdc hda
  refine byNo fun hno => ?_
  obtain ⟨k1, k2, k3, k4, text, rfl⟩ := hd
  refine hno ?_
  clear hno
  exact exc_get (X.keeps F.keep) I (ga70 w) (gt70 w) (mr70 w) (findObj_own (hd70 w) (fi70w w) rfl rfl) hl h
theorem name_off {M : Model} {env : Env} {n : Str} {pos : Pos} {Q : Unit → Shared → Prop} (F : Fr h₀ env.locals s.heap m) (N : News h₀ env.locals s.heap news) (hl : env.kindOf n = some .local) (hp : (env.scope.kind == .class || (env.scope.kind == .module && env.locals != env.globals)) = false)
    (h : ∀ h' v tk, Fr h₀ env.locals h' (fun x => if x = n then v else m x) → News h₀ env.locals h' news → Q () { s with heap := h', toks := tk }) :
    wpAny M A (do bindName env n .none; unbindBehindTheSuite env n pos) Q E s :=
  wpAny_nameGoes_keeps hl F.ns hp fun h' v hn hs => h h' v _ (F.set hn hs) (N.set hs)
end
end
set_option maxHeartbeats 1000000

section
variable {w : World} {mean : ExcName → Option Value} {mg mb : PySem.Str → Option Value} {dp un : Nat} {gd : Option (List Code)} {env : Env} {outer : List Env} {A₀ : Around} {base h₀ : Heap} {L : Addr} {m : PySem.Str → Option Value} {s : Shared} {Q : Value → Shared → Prop} {E : Value → Shared → Prop} {news : List (Addr × Obj)}
theorem varnames_use {v : Value} {ys : List PySem.Str} (B : Below A₀ base outer h₀) (F : Fr h₀ L s.heap m) (X : (hd.heap_1 w.params).In h₀) (N : News h₀ L s.heap news) (T : TP mean mg mb h₀)
    (hf : env.frame = some L) (hk : env.scope.kind = .function) (hd : dp + 30 < recursionLimit) (hu : un + 2000 < cLine) (hV : VarR (At h₀) v ys)
    (ret : ∀ D ws n h' tk', StrsAre ws ys → Fr h₀ L h' m → News h₀ L h' ((D, listOf ws.toArray n) :: news) → Off1 D news → Q (.ref D) { s with heap := h', toks := tk' }) :
    wpAny (model PySem.Challenge.rw_pb0010_01.row.prog w) (topA dp un gd env outer) (call (.ref 77) [v]) Q E s := by
  refine Spec.use0 (varnames_spec w mean mg mb v ys) B F X N T hf hk hd hu (hV.mono fun a o e => F.keep a o e) ?_
  rintro r new h' tk' F' N' hne - ⟨D, ws, n, rfl, rfl, hw⟩
  exact ret D ws n h' tk' hw F' N' (off1_of fun q hq => hne q hq _ (.head _))
end
noncomputable def TypeH (w : World) (R : Addr → Obj → Prop) (x : Addr) (T : TF) (dvs cvs : List Value) (dxs cxs ys : List PySem.Str) : Prop :=
  TyH w R x T ∧ (∃ dl n1, T.discs = .ref dl ∧ R dl (listOf dvs.toArray n1)) ∧ (∃ cl n2, T.comps = .ref cl ∧ R cl (listOf cvs.toArray n2)) ∧ RowsR R dvs dxs ∧ RowsR R cvs cxs ∧ VarR R T.variant ys ∧ T.tagged = .bool true
theorem TypeH.mono {w : World} {R R' : Addr → Obj → Prop} {x : Addr} {T : TF} {dvs cvs : List Value} {dxs cxs ys : List PySem.Str} (h : TypeH w R x T dvs cvs dxs cxs ys) (k : ∀ a o, R a o → R' a o) : TypeH w R' x T dvs cvs dxs cxs ys := by
  refine byNo fun hno => ?_
  obtain ⟨h1, ⟨a, b, c, d⟩, ⟨a', b', c', d'⟩, h4, h5, h6, h7⟩ := h
  refine hno ?_
  clear hno
  exact ⟨h1.mono k, ⟨a, b, c, k _ _ d⟩, ⟨a', b', c', k _ _ d'⟩, h4.mono k, h5.mono k, h6.mono k, h7⟩
local macro_rules | `(tactic| k_search 12) => `(tactic| assumption)
section

theorem checknames_spec (w : World) (mean mg mb) (p rl n : Addr) (T : TF) (dvs cvs rvs : List Value) (dxs cxs ys rxs : List PySem.Str) (line : Value) (hz : dvs.length ≤ 100 ∧ cvs.length ≤ 100 ∧ rvs.length ≤ 100 ∧ ys.length ≤ 100) :
    SpecR w mean mg mb 171 [.ref p, .ref rl, line] 60 5000 51 (fun h => TypeH w (At h) p T dvs cvs dxs cxs ys ∧ At h rl (listOf rvs.toArray n) ∧ RowsR (At h) rvs rxs)
      (fun r new => r = .none ∧ new = [] ∧ (dxs ++ cxs ++ ys ++ rxs).Nodup) (fun od => FaultDict w line od ∧ ¬ (dxs ++ cxs ++ ys ++ rxs).Nodup) := by
  refine spec_enterR [(Str.ofString "parent", .ref p), (Str.ofString "components", .ref rl), (Str.ofString "line", line)] (by k_is) (by k_is) (fun _ => BindsTo.of_eq rfl) (locs rfl) rfl rfl rfl (by decide) ?_
  intro dp un gd env outer base g L' h₁ s tk₀ hd hu hP G F N B X Tp
  have G' : ∀ a o, At s.heap a o → At g a o := fun a o e => G a o e (by simp)
  refine byNo fun hno => ?_
  obtain ⟨hT, hr, rr⟩ := hP
  obtain ⟨t1, ⟨dl, n1, e1, l1⟩, ⟨cl, n2, e2, l2⟩, r1, r2, hV, hTag⟩ := hT.mono G'
  refine hno ?_
  clear hno
  have l1' : g.IsList dl dvs.toArray := isListOf l1
  have l2' : g.IsList cl cvs.toArray := isListOf l2
  have l3' : g.IsList rl rvs.toArray := isListOf (G' _ _ hr)
  have r3 := rr.mono G'
  have hr1 := r1.1
  have hr2 := r2.1
  have hr3 := r3.1
  refine byNo fun hno => ?_
  obtain ⟨hz1, hz2, hz3, hz4⟩ := hz
  refine hno ?_
  clear hno
  clear hT l1 l2 hr rr
  k_with_none
  (try k_unmd); (try dsimp only); (try k_fold)
  focus
    iterate 8 ((try dsimp only); walk1)
    ((try dsimp only); refine rows_comp (by assumption) rfl rfl (by decide) rfl (by decide) (by decide) (by decide) ?_)
    iterate 3 ((try dsimp only); walk1)
    ((try dsimp only); first | refine tyE_discs (by assumption) (by assumption) (TyH.mono (by assumption) (fun a o e => Fr.keep (by assumption) a o e)) (by assumption) ?_ | refine tyg_discs (by assumption) (by assumption) (TyH.mono (by assumption) (fun a o e => Fr.keep (by assumption) a o e)) ?_)
    iterate 2 ((try dsimp only); walk1)
    ((try dsimp only); first | refine tyE_comps (by assumption) (by assumption) (TyH.mono (by assumption) (fun a o e => Fr.keep (by assumption) a o e)) (by assumption) ?_ | refine tyg_comps (by assumption) (by assumption) (TyH.mono (by assumption) (fun a o e => Fr.keep (by assumption) a o e)) ?_)
    ((try dsimp only); refine add_L (by assumption) (by assumption) (by first | exact Heap.IsList.at (by assumption) (fun o e => Fr.keep (by assumption) _ o e) | exact isListOf (News.get (by assumption) (by k_search 3))) (by first | exact Heap.IsList.at (by assumption) (fun o e => Fr.keep (by assumption) _ o e) | exact isListOf (News.get (by assumption) (by k_search 3))) ?_ (by k_search 4); (intro _ _ _ _ lt; (try replace lt := allLt_of lt); revert lt; intro _))
    (((with_reducible show RowsSrc _ _ _ _ _ _); first | refine rowsSrc_base (by assumption) (by assumption) (by with_reducible assumption) (by k_search 5) (by k_search 4) ?_ | refine rowsSrc_led (by assumption) (by assumption) (by k_search 3) (by k_search 5) (by k_search 4) ?_); (intro _ _ _ _ hw y5 y6 y7; (have hwl := StrsAre.length hw); (try simp only [List.length_cons, List.length_nil, List.length_drop, List.length_append] at hwl); revert hw y5 y6 y7 hwl; intro _ _ _ _ _))
    iterate 6 ((try dsimp only); walk1)
    ((try dsimp only); first | refine tyE_variant (by assumption) (by assumption) (TyH.mono (by assumption) (fun a o e => Fr.keep (by assumption) a o e)) (by assumption) ?_ | refine tyg_variant (by assumption) (by assumption) (TyH.mono (by assumption) (fun a o e => Fr.keep (by assumption) a o e)) ?_)
    iterate 2 ((try dsimp only); walk1)
    ((try dsimp only); refine varnames_use (by assumption) (by assumption) (by assumption) (by assumption) (by assumption) rfl rfl (by k_search 2) (by k_search 2) (by assumption) ?_; (intro _ _ _ _ _ hw y6 N' y8; (have hwl := StrsAre.length hw); (try dsimp only [List.cons_append, List.nil_append] at N'); revert hw y6 N' y8 hwl; intro _ _ _ _ _))
    ((try dsimp only); refine add_L (by assumption) (by assumption) (by first | exact Heap.IsList.at (by assumption) (fun o e => Fr.keep (by assumption) _ o e) | exact isListOf (News.get (by assumption) (by k_search 3))) (by first | exact Heap.IsList.at (by assumption) (fun o e => Fr.keep (by assumption) _ o e) | exact isListOf (News.get (by assumption) (by k_search 3))) ?_ (by k_search 4); (intro _ _ _ _ lt; (try replace lt := allLt_of lt); revert lt; intro _))
    iterate 3 ((try dsimp only); walk1)
    ((try dsimp only); refine For_of ?_)
    iterate 2 ((try dsimp only); walk1)
    ((try dsimp only); refine rows_comp (by assumption) rfl rfl (by decide) rfl (by decide) (by decide) (by decide) ?_)
    ((try dsimp only); walk1)
    (((with_reducible show RowsSrc _ _ _ _ _ _); first | refine rowsSrc_base (by assumption) (by assumption) (by with_reducible assumption) (by k_search 5) (by k_search 4) ?_ | refine rowsSrc_led (by assumption) (by assumption) (by k_search 3) (by k_search 5) (by k_search 4) ?_); (intro _ _ _ _ hw y5 y6 y7; (have hwl := StrsAre.length hw); (try simp only [List.length_cons, List.length_nil, List.length_drop, List.length_append] at hwl); revert hw y5 y6 y7 hwl; intro _ _ _ _ _))
    ((try dsimp only); refine add_L (by assumption) (by assumption) (by first | exact Heap.IsList.at (by assumption) (fun o e => Fr.keep (by assumption) _ o e) | exact isListOf (News.get (by assumption) (by k_search 3))) (by first | exact Heap.IsList.at (by assumption) (fun o e => Fr.keep (by assumption) _ o e) | exact isListOf (News.get (by assumption) (by k_search 3))) ?_ (by k_search 4); (intro _ _ _ _ lt; (try replace lt := allLt_of lt); revert lt; intro _))
  all_goals (try dsimp only)
  rename StrsAre _ rxs => hw3
  rename StrsAre _ ys => hw2
  rename StrsAre _ (dxs ++ cxs) => hw1
  have hall := (hw1.append' hw2).append' hw3
  have hlen : (dxs ++ cxs ++ ys ++ rxs).length ≤ 400 := by simp only [List.length_append]; omega
  refine' iter_updN (Str.ofString "known") (x := Str.ofString "name") (fun i o => FlagD PySem.Challenge.rw_pb0010_01.row.prog w o ((dxs ++ cxs ++ ys ++ rxs).take i) ∧ ((dxs ++ cxs ++ ys ++ rxs).take i).Nodup) ?Y rfl ?F ?N ?U ?S ?h0 ?turn ?done
  case F => assumption
  case N => assumption
  case Y => exact rfl
  case h0 =>
    refine ⟨?_, by simp⟩
    unfold FlagD
    rw [List.take_zero, List.map_nil]
    assumption
  case U => k_updF
  case S => exact fun o => .inr ⟨_, .head _, rfl, _, rfl⟩
  case turn =>
    intro i v ov o h tk I oI hv hk F₁ N₁ off
    refine byNo fun hno => ?_
    obtain ⟨x, t, rfl, hx⟩ := hall.item i v hv
    obtain ⟨hk1, hk2⟩ := hk
    refine hno ?_
    clear hno
    dsimp only [List.cons_append, List.nil_append] at N₁
    have hzt : ((dxs ++ cxs ++ ys ++ rxs).take i).length ≤ 400 := by rw [List.length_take]; omega
    focus
      focus ((try dsimp only); refine wpAny_assign_Name ?_)
      focus (iterate 7 ((try dsimp only); walk1))
      focus ((try dsimp only); refine in_flag (by assumption) (by k_search 3) (by assumption) (by assumption) ?_; (intro _))
      focus (iterate 3 ((try dsimp only); walk1))
      focus ((try dsimp only); refine raise51 rfl ?_)
      focus (iterate 9 ((try dsimp only); walk1))
      focus ((try dsimp only); refine fault_call (by assumption) (by assumption) (by assumption) (by assumption) (by assumption) rfl rfl (by k_search 2) (by k_search 2) ?_; (intro _ _ _ _ _ _ _ _ _ _ _))
      focus (((with_reducible show RaiseOk 51 _ _ _ _); refine raiseOk51 (by assumption) (by assumption) (by assumption) ?_))
      rotate_left
      focus (iterate 6 ((try dsimp only); walk1))
      focus ((try dsimp only); refine' set_flag ?F ?N ?U ?D ?H ?Z ?_; (case F => assumption); (case N => assumption); (case U => k_updF); (case D => assumption); (case H => k_search 12); (case Z => k_search 4); (intro _ _ _ _ N' y5; (try dsimp only [List.cons_append, List.nil_append] at N'); revert N' y5; intro _ _))
      focus ((try dsimp only); walk1)
      rotate_left
    · exact lost_loop (Around.frames_deeper rfl) (by assumption) (by assumption) (by assumption) (by assumption) ⟨⟨_, _, _, rfl⟩, dup_of_mem hx (by assumption)⟩ rfl rfl
    · refine UpdEnd.next (by assumption) (by assumption) ⟨?_, ?_⟩
      · rw [take_snoc hx]; assumption
      · rw [take_snoc hx]; exact nodup_snoc hk2 (by assumption)
  case done =>
    intro ov o h tk hk F₁ N₁
    focus
      ((try dsimp only); walk1)
      (k_unfold; (try dsimp only))
    refine ⟨h, tk, _, [], rfl, F₁, News.nil, rfl, rfl, ?_⟩
    have := hk.2
    rw [hall.length, List.take_length] at this
    exact this
end
set_option maxHeartbeats 1000000

section
variable {w : World} {mean : ExcName → Option Value} {mg mb : PySem.Str → Option Value} {dp un : Nat} {gd : Option (List Code)} {env : Env} {outer : List Env} {A₀ : Around} {base h₀ : Heap} {L : Addr} {m : PySem.Str → Option Value} {s : Shared} {Q : Value → Shared → Prop} {E : Value → Shared → Prop} {news : List (Addr × Obj)}
theorem derived_use {p : Addr} {T : TF} {name : Value} (B : Below A₀ base outer h₀) (F : Fr h₀ L s.heap m) (X : (hd.heap_1 w.params).In h₀) (N : News h₀ L s.heap news) (Tp : TP mean mg mb h₀)
    (hf : env.frame = some L) (hk : env.scope.kind = .function) (hd : dp + 30 < recursionLimit) (hu : un + 2000 < cLine) (hnm : handedIn name = true) (HT : TyH w (At h₀) p T)
    (ret : ∀ x d op oo T' k0 k1 k2 k3 k4 k5 k6 k7 k8 k9 k10 k11 k12 k13 k14 k15 k16 k17 k18 k19 k20 h' tk', Fr h₀ L h' m → News h₀ L h' ((op, oo) :: (x, instObj 94 d) :: (d, dictOf (tyEs w k0 k1 k2 k3 k4 k5 k6 k7 k8 k9 k10 k11 k12 k13 k14 k15 k16 k17 k18 k19 k20 T') 21) :: news) → (@Ne Nat x d ∧ @Ne Nat op x ∧ @Ne Nat op d) → Off1 x news ∧ Off1 d news ∧ Off1 op news →
      (op == sysModules) = false ∧ T'.handed = true → T'.parent = .ref p → oo.IsDictOf (SK w) [] → T'.ops = .ref op → T'.discs = T.discs ∧ T'.comps = T.comps ∧ T'.variant = T.variant ∧ T'.tagged = T.tagged → Q (.ref x) { s with heap := h', toks := tk' }) :
    wpAny (model PySem.Challenge.rw_pb0010_01.row.prog w) (topA dp un gd env outer) (call (.ref 140) [.ref p, name]) Q E s := by
  refine Spec.use0 (derived_spec w mean mg mb p T name hnm) B F X N Tp hf hk hd hu (HT.mono fun a o e => F.keep a o e) ?_
  rintro r new h' tk' F' N' hne - ⟨x, d, op, od, oo, T', rfl, h1, h2, h3, h4, ⟨k0, k1, k2, k3, k4, k5, k6, k7, k8, k9, k10, k11, k12, k13, k14, k15, k16, k17, k18, k19, k20, rfl⟩, h6, h7, h8, h9, h10, h11, rfl⟩
  exact ret x d op oo T' _ _ _ _ _ _ _ _ _ _ _ _ _ _ _ _ _ _ _ _ _ h' tk' F' N' h1 ⟨off1_of fun q hq => hne q hq _ (.tail _ (.head _)), off1_of fun q hq => hne q hq _ (.tail _ (.tail _ (.head _))), off1_of fun q hq => hne q hq _ (.head _)⟩ ⟨h2, h3⟩ h4 h6 h7 ⟨h8, h9, h10, h11⟩
end
theorem DoneR.pick {s : Shared} {g h' : Heap} {L' : Addr} {m' : FMap} {a b c d e : Addr × Obj} {rest : List (Addr × Obj)} {Post : Value → List (Addr × Obj) → Prop} {v : Value} {tk : Nat} (F : Fr g L' h' m') (N : News g L' h' (a :: b :: c :: d :: e :: rest)) (hp : Post v [a, c, d, e]) :
    DoneR s g L' Post v { s with heap := h', toks := tk } :=
  ⟨h', tk, m', [a, c, d, e], rfl, F, fun p hp => N p (by simp only [List.mem_cons, List.not_mem_nil, or_false] at hp; rcases hp with h | h | h | h <;> simp [h]), hp⟩
noncomputable def ExtPost (w : World) (p : Addr) (T : TF) (number : Value) (vs : List Value) (r : Value) (new : List (Addr × Obj)) : Prop :=
  ∃ x d op od oo T' D n, r = .ref x ∧ TyDict w T' od ∧ T'.parent = .ref p ∧ T'.number = number ∧ T'.comps = .ref D ∧ T'.discs = T.discs ∧ T'.variant = T.variant ∧ T'.tagged = .bool true ∧ T'.ops = .ref op ∧ oo.IsDictOf (SK w) [] ∧ (op == sysModules) = false ∧ T'.handed = true ∧
    new = [(D, listOf vs.toArray n), (op, oo), (x, instObj 94 d), (d, od)]
theorem hand_ext {TT : TF} {n : Value} {D : Addr} (h : TT.handed = true) (h1 : handedIn n = true) : ({ TT with number := n, comps := .ref D } : TF).handed = true := by
  simp only [TF.handed, Bool.and_eq_true, hRef] at h ⊢
  simp only [h, h1, and_self]
theorem extPost {w : World} {p x d op D nn : Addr} {T TT : TF} {number : Value} {vs : List Value} {oo : Obj} {k0 k1 k2 k3 k4 k5 k6 k7 k8 k9 k10 k11 k12 k13 k14 k15 k16 k17 k18 k19 k20 : Tok} (hs : (op == sysModules) = false ∧ TT.handed = true) (hp : TT.parent = .ref p) (ho : oo.IsDictOf (SK w) []) (hop : TT.ops = .ref op) (h : TT.discs = T.discs ∧ TT.comps = T.comps ∧ TT.variant = T.variant ∧ TT.tagged = T.tagged) (ht : T.tagged = .bool true) (hn : handedIn number = true) :
    ExtPost w p T number vs (.ref x) [(D, listOf vs.toArray nn), (op, oo), (x, instObj 94 d), (d, dictOf (tyEs w k0 k1 k2 k3 k4 k5 k6 k7 k8 k9 k10 k11 k12 k13 k14 k15 k16 k17 k18 k19 k20 { TT with number := number, comps := .ref D }) 21)] :=
  ⟨x, d, op, _, oo, { TT with number := number, comps := .ref D }, D, nn, rfl, ⟨_, _, _, _, _, _, _, _, _, _, _, _, _, _, _, _, _, _, _, _, _, rfl⟩, hp, rfl, rfl, h.1, h.2.2.1, h.2.2.2.trans ht, hop, ho, hs.1, hand_ext hs.2 hn, rfl⟩
section

theorem extend_spec (w : World) (mean mg mb) (p rl n : Addr) (T : TF) (dvs cvs rvs : List Value) (dxs cxs ys rxs : List PySem.Str) (name number line : Value) (hz : dvs.length ≤ 100 ∧ cvs.length ≤ 100 ∧ rvs.length ≤ 100 ∧ ys.length ≤ 100) (hnm : handedIn name = true) (hnu : handedIn number = true) :
    SpecR w mean mg mb 178 [.ref p, name, number, .ref rl, line] 70 6000 51 (fun h => TypeH w (At h) p T dvs cvs dxs cxs ys ∧ At h rl (listOf rvs.toArray n) ∧ RowsR (At h) rvs rxs)
      (fun r new => (dxs ++ cxs ++ ys ++ rxs).Nodup ∧ ExtPost w p T number (cvs ++ rvs) r new) (fun od => FaultDict w line od ∧ ¬ (dxs ++ cxs ++ ys ++ rxs).Nodup) := by
  refine spec_enterR [(Str.ofString "parent", .ref p), (Str.ofString "name", name), (Str.ofString "number", number), (Str.ofString "components", .ref rl), (Str.ofString "line", line)] (by k_is) (by k_is) (fun _ => BindsTo.of_eq rfl) (locs rfl) rfl rfl rfl (by decide) ?_
  intro dp un gd env outer base g L' h₁ s tk₀ hd hu hP G F N B X Tp
  have G' : ∀ a o, At s.heap a o → At g a o := fun a o e => G a o e (by simp)
  refine byNo fun hno => ?_
  obtain ⟨hT, hr, rr⟩ := hP
  refine hno ?_
  clear hno
  have hT' := hT.mono G'
  have hr' := G' _ _ hr
  have rr' := rr.mono G'
  refine byNo fun hno => ?_
  obtain ⟨t1, ⟨dl, n1, e1, l1⟩, ⟨cl, n2, e2, l2⟩, r1, r2, hV, hTag⟩ := id hT'
  refine hno ?_
  clear hno
  have l2' : g.IsList cl cvs.toArray := isListOf l2
  have l3' : g.IsList rl rvs.toArray := isListOf hr'
  have hz2 := hz.2.1
  have hz3 := hz.2.2.1
  clear hT hr rr l1 l2 r1 r2 hV
  k_with_none
  (try k_unmd); (try dsimp only); (try k_fold)
  focus
    iterate 6 ((try dsimp only); walk1)
    ((try dsimp only); first | refine tyE_tagged (by assumption) (by assumption) (TyH.mono (by assumption) (fun a o e => Fr.keep (by assumption) a o e)) (by assumption) ?_ | refine tyg_tagged (by assumption) (by assumption) (TyH.mono (by assumption) (fun a o e => Fr.keep (by assumption) a o e)) ?_)
    iterate 17 ((try dsimp only); walk1)
  all_goals (try dsimp only)
  refine SpecR.use (checknames_spec w mean mg mb p rl n T dvs cvs rvs dxs cxs ys rxs line hz) (by assumption) (by assumption) (by assumption) (by assumption) (by assumption) rfl rfl (by k_search 2) (by k_search 2) ⟨hT'.mono (fun a o e => Fr.keep (by assumption) a o e), Fr.keep (by assumption) _ _ hr', rr'.mono (fun a o e => Fr.keep (by assumption) a o e)⟩ ?ret ?rais
  case rais =>
    intro e d od h' tk' Fl hp
    exact lost_call Fl (fun b o e => Fr.keep (by assumption) b o e) hp
  case ret =>
    intro r new h' tk' F' N' hne hq7
    refine byNo fun hno => ?_
    obtain ⟨rfl, rfl, hnd⟩ := hq7
    refine hno ?_
    clear hno
    dsimp only [List.nil_append] at N'
    focus
      iterate 11 ((try dsimp only); walk1)
    all_goals (try dsimp only)
    refine derived_use (by assumption) (by assumption) (by assumption) (by assumption) (by assumption) rfl rfl (by k_search 2) (by k_search 2) hnm t1 ?_
    intro x d op oo T' k0 k1 k2 k3 k4 k5 k6 k7 k8 k9 k10 k11 k12 k13 k14 k15 k16 k17 k18 k19 k20 h2 tk2 F2 N2 hne2 hoff hsm hp ho hop hTT
    have hoff1 := hoff.1
    have hoff2 := hoff.2.1
    have hoff3 := hoff.2.2
    dsimp only [tyEs, ent] at N2
    focus
      iterate 13 ((try dsimp only); walk1)
      ((try dsimp only); first | refine tyE_comps (by assumption) (by assumption) (TyH.mono (by assumption) (fun a o e => Fr.keep (by assumption) a o e)) (by assumption) ?_ | refine tyg_comps (by assumption) (by assumption) (TyH.mono (by assumption) (fun a o e => Fr.keep (by assumption) a o e)) ?_)
      iterate 7 ((try dsimp only); walk1)
      ((try dsimp only); refine add_L (by assumption) (by assumption) (by first | exact Heap.IsList.at (by assumption) (fun o e => Fr.keep (by assumption) _ o e) | exact isListOf (News.get (by assumption) (by k_search 3))) (by first | exact Heap.IsList.at (by assumption) (fun o e => Fr.keep (by assumption) _ o e) | exact isListOf (News.get (by assumption) (by k_search 3))) ?_ (by k_search 4); (intro _ _ _ _ lt; (try replace lt := allLt_of lt); revert lt; intro _))
      iterate 6 ((try dsimp only); walk1)
      (k_unfold; (try dsimp only))
    exact DoneR.pick (by assumption) (by assumption) ⟨hnd, extPost hsm hp ho hop hTT hTag hnu⟩
end
set_option maxHeartbeats 1000000

theorem doneC_plain {s : Shared} {h₀ g h' : Heap} {L L' : Addr} {m' : FMap} {new : List (Addr × Obj)} {Post : Value → List (Addr × Obj) → Prop} {v : Value} {tk : Nat} (F : Fr g L' h' m') (N : News g L' h' new) (st : h₀.StaysIn g) (G : GSub s.heap g []) (hp : Post v new) :
    DoneC s h₀ L L' Post v { s with heap := h', toks := tk } :=
  ⟨g, h', tk, m', new, rfl, F, N, st, fun b o e _ => G b o e (by simp), Heap.UpToSlots.of_keeps fun b o e => G b o e (by simp), hp⟩
theorem doneC_caught {s : Shared} {h₀ g g₂ h' : Heap} {A₀ : Around} {env : Env} {L L' : Addr} {m' : FMap} {new : List (Addr × Obj)} {Post : Value → List (Addr × Obj) → Prop} {v : Value} {tk : Nat} (F : Fr g₂ L' h' m') (N : News g₂ L' h' new) (Gr : Ground h₀ g A₀ [env] g₂) (hf : env.frame = some L) (G : GSub s.heap g []) (hp : Post v new) :
    DoneC s h₀ L L' Post v { s with heap := h', toks := tk } :=
  ⟨g₂, h', tk, m', new, rfl, F, N, Gr.stays, fun b o e n => Gr.keep b o (G b o e (by simp)) (fun v hv z => by
    rw [List.mem_singleton.mp hv, hf] at z; exact n (Option.some.inj z).symm), (Heap.UpToSlots.of_keeps fun b o e => G b o e (by simp)).trans Gr.slots, hp⟩
section

theorem ns51 (w : World) : nsIn (hd.heap_1 w.params) mainGlobals (Str.ofString "CheckFault") = some (some (.ref 51)) := by k_is
theorem ns70 (w : World) : nsIn (hd.heap_1 w.params) mainGlobals (Str.ofString "AdaRaise") = some (some (.ref 70)) := by k_is
noncomputable def ExtdPost (w : World) (p : Addr) (T : TF) (number line : Value) (vs : List Value) (all : List PySem.Str) (r : Value) (new : List (Addr × Obj)) : Prop :=
  (all.Nodup ∧ ExtPost w p T number vs r new) ∨ (¬ all.Nodup ∧ r = line ∧ new = [])
theorem extended_spec (w : World) (mean mg mb) (p rl n : Addr) (T : TF) (dvs cvs rvs : List Value) (dxs cxs ys rxs : List PySem.Str) (name number line : Value) (hz : dvs.length ≤ 100 ∧ cvs.length ≤ 100 ∧ rvs.length ≤ 100 ∧ ys.length ≤ 100) (hnm : handedIn name = true) (hnu : handedIn number = true) (hli : handedIn line = true) :
    SpecC w mean mg mb 230 [.ref p, name, number, .ref rl, line] 80 7000 (fun h => TypeH w (At h) p T dvs cvs dxs cxs ys ∧ At h rl (listOf rvs.toArray n) ∧ RowsR (At h) rvs rxs)
      (ExtdPost w p T number line (cvs ++ rvs) (dxs ++ cxs ++ ys ++ rxs)) := by
  refine spec_enterC [(Str.ofString "parent", .ref p), (Str.ofString "name", name), (Str.ofString "number", number), (Str.ofString "rows", .ref rl), (Str.ofString "line", line)] (by k_is) (by k_is) (fun _ => BindsTo.of_eq rfl) (locs rfl) rfl rfl rfl (by decide) ?_
  intro dp un gd env h₀ g L L' h₁ s tk₀ hd hu hP G hfL st F N B X₀ Tp₀
  have X := X₀.keeps st
  have Tp := Tp₀.keeps st
  have G' : ∀ a o, At s.heap a o → At g a o := fun a o e => G a o e (by simp)
  refine byNo fun hno => ?_
  obtain ⟨hT, hr, rr⟩ := hP
  refine hno ?_
  clear hno
  have hT' := hT.mono G'
  have hr' := G' _ _ hr
  have rr' := rr.mono G'
  clear hT hr rr
  k_with_none
  (try k_unmd); (try dsimp only); (try k_fold)
  focus
    iterate 19 ((try dsimp only); walk1)
  all_goals (try dsimp only)
  refine SpecR.use (extend_spec w mean mg mb p rl n T dvs cvs rvs dxs cxs ys rxs name number line hz hnm hnu) (by assumption) (by assumption) (by assumption) (by assumption) (by assumption) rfl rfl (by k_search 2) (by k_search 2) ⟨hT'.mono (fun a o e => Fr.keep (by assumption) a o e), Fr.keep (by assumption) _ _ hr', rr'.mono (fun a o e => Fr.keep (by assumption) a o e)⟩ ?ret ?rais
  case ret =>
    rintro r new h' tk' F' N' hne hp
    focus
      (k_unfold; (try dsimp only))
    all_goals exact doneC_plain F' (fun p hp => N' p (by simpa using hp)) st G (Or.inl hp)
  case rais =>
    intro e d od h' tk' Fl hq6
    refine byNo fun hno => ?_
    obtain ⟨hp, hnd⟩ := hq6
    refine hno ?_
    clear hno
    (try k_unfold); (try dsimp only)
    refine caughtX (C := 51) (cl := []) (x := Str.ofString "CheckFault") Fl F N B X₀ (topRead_of Tp₀) rfl (exc51 w) (ns51 w) ?_
    intro g₂ h₂ oe vs tk₂ F₂ N₂ Gr hc hdc hda
    have X₂ := X₀.keeps Gr.stays
    have Tp₂ := Tp₀.keeps Gr.stays
    clear F N B X Tp
    focus
      iterate 4 ((try dsimp only); walk1)
    refine fault_line F₂ X₂ N₂ hc hdc hda hp hli ?_
    focus
      skip
    all_goals (try dsimp only)
    refine name_off F₂ N₂ rfl rfl ?_
    intro h₃ v₃ tk₃ F₃ N₃
    exact doneC_caught F₃ News.nil Gr hfL G (Or.inr ⟨hnd, rfl, rfl⟩)
end
section
open PySem PySem.W PyProof.Rows PySem.Calls PySem.SeqAt PySem.Spec PyProof.Rows.LCg
set_option maxRecDepth 100000
set_option maxHeartbeats 1000000
section
variable {prog : Program} {w : World} {A : Around} {E : Value → Shared → Prop} {s : Shared} {h₀ : Heap} {m : FMap} {env : Env} {news : List (Addr × Obj)} {test : PySem.Expr} {body : List Stmt} {Q : Flow → Shared → Prop}
noncomputable def WhEnd (h₀ : Heap) (L : Addr) (x : PySem.Str) (m : FMap) (gg : Obj → List (Addr × Obj)) (K : Nat → Option Value → Obj → Prop) (n : Nat) (Q : Flow → Shared → Prop) (s₀ : Shared) (f : Flow) (s₃ : Shared) : Prop :=
  match f with
  | .ret v => Q (.ret v) s₃
  | .brk => Q .next s₃
  | _ => ∃ h' tk' ov o n', n' < n ∧ s₃ = { s₀ with heap := h', toks := tk' } ∧ Fr h₀ L h' (fun y => if y = x then ov else m y) ∧ News h₀ L h' (gg o) ∧ K n' ov o
theorem WhEnd.next {L : Addr} {x : PySem.Str} {gg : Obj → List (Addr × Obj)} {K : Nat → Option Value → Obj → Prop} {n : Nat} {h' : Heap} {tk' : Nat} {a b : Option Value} {o : Obj} (n' : Nat) (F : Fr h₀ L h' (fun y => if y = x then a else (fun y => if y = x then b else m y) y)) (N : News h₀ L h' (gg o)) (k : K n' a o) (hn : n' < n) :
    WhEnd h₀ L x m gg K n Q s .next { s with heap := h', toks := tk' } := ⟨h', tk', a, o, n', hn, rfl, map_again ▸ F, N, k⟩
theorem WhEnd.next0 {L : Addr} {x : PySem.Str} {gg : Obj → List (Addr × Obj)} {K : Nat → Option Value → Obj → Prop} {n : Nat} {h' : Heap} {tk' : Nat} {b : Option Value} {o : Obj} (n' : Nat) (F : Fr h₀ L h' (fun y => if y = x then b else m y)) (N : News h₀ L h' (gg o)) (k : K n' b o) (hn : n' < n) :
    WhEnd h₀ L x m gg K n Q s .next { s with heap := h', toks := tk' } := ⟨h', tk', b, o, n', hn, rfl, F, N, k⟩
theorem while_upd (x y : PySem.Str) {kd : Addr} {pos : Pos} {o₀ : Obj} {gg : Obj → List (Addr × Obj)} (K : Nat → Option Value → Obj → Prop) (n : Nat) (hy : m y = some (.ref kd)) (F : Fr h₀ env.locals s.heap m) (N : News h₀ env.locals s.heap news) (U : UpdF kd o₀ news gg) (h0 : K n (m x) o₀)
    (turn : ∀ n ov o h tk, K n ov o → Fr h₀ env.locals h (fun y => if y = x then ov else m y) → News h₀ env.locals h (gg o) →
      wpAny (model prog w) A (isTrue test env (eval test env)) (fun b s₂ => if b then wpAny (model prog w) A (execs body env) (WhEnd h₀ env.locals x m gg K n Q s) (notedBy (model prog w) A env (cameBackBy (model prog w) A env E)) s₂ else Q .next s₂) (notedBy (model prog w) A env (cameBackBy (model prog w) A env E)) { s with heap := h, toks := tk }) :
    wpAny (model prog w) A (exec (.While test body [] pos) env) Q E s := by
  have e0 := updF_start U
  have _ := hy
  refine wpAny_While (codeAny_whileLoop (fun n s' => ∃ ov o h tk, s' = { s with heap := h, toks := tk } ∧ K n ov o ∧ Fr h₀ env.locals h (fun y => if y = x then ov else m y) ∧ News h₀ env.locals h (gg o)) ?_ n ⟨m x, o₀, s.heap, s.toks, rfl, h0, map_same ▸ F, e0 ▸ N⟩)
  intro n s' hq2
  refine byNo fun hno => ?_
  obtain ⟨ov, o, h, tk, rfl, hk, F₁, N₁⟩ := hq2
  refine hno ?_
  clear hno
  refine wpAny_mono (turn n ov o h tk hk F₁ N₁) (fun b s₂ h₂ => ?_) fun _ _ z => z
  cases b with
  | true =>
    simp only [if_true] at h₂ ⊢
    refine wpAny_mono h₂ (fun f s₃ h₃ => ?_) fun _ _ z => z
    cases f with
    | ret v => exact h₃
    | brk => exact h₃
    | next =>
      refine byNo fun hno => ?_
      obtain ⟨h', tk', ov', o', n', hn, rfl, F', N', k⟩ := h₃
      refine hno ?_
      clear hno
      exact ⟨n', hn, ov', o', h', tk', rfl, k, F', N'⟩
    | cont =>
      refine byNo fun hno => ?_
      obtain ⟨h', tk', ov', o', n', hn, rfl, F', N', k⟩ := h₃
      refine hno ?_
      clear hno
      exact ⟨n', hn, ov', o', h', tk', rfl, k, F', N'⟩
  | false =>
    simp only [Bool.false_eq_true, if_false] at h₂ ⊢
    exact wpAny_execs_nil h₂
end
end
set_option maxHeartbeats 1000000

noncomputable def ChainR (w : World) (R : Addr → Obj → Prop) : Value → List (Addr × TF) → Prop
  | v, [] => v = .none
  | v, (x, T) :: r => v = .ref x ∧ TyH w R x T ∧ ChainR w R T.parent r
theorem ChainR.mono {w : World} {R R' : Addr → Obj → Prop} (k : ∀ a o, R a o → R' a o) : ∀ {v : Value} {ts : List (Addr × TF)}, ChainR w R v ts → ChainR w R' v ts
  | _, [], h => h
  | _, (_, _) :: _, h => ⟨h.1, h.2.1.mono k, ChainR.mono k h.2.2⟩
noncomputable def LinePost (ts : List (Addr × TF)) (r : Value) (_upd new : List (Addr × Obj)) : Prop := ∃ D n, r = .ref D ∧ new = [(D, listOf (ts.map fun p => Value.ref p.1).toArray n)]
section

theorem line_spec (w : World) (mean mg mb) (v : Value) (ts : List (Addr × TF)) (hz : ts.length ≤ 100) :
    Spec w mean mg mb 154 [v] 30 2000 [] (fun h => ChainR w (At h) v ts) (LinePost ts) := by
  refine spec_enter [(Str.ofString "kind", v)] (by k_is) (by k_is) (fun _ => BindsTo.of_eq rfl) (locs rfl) rfl rfl rfl (by decide) ?_
  intro dp un gd env outer base g L' h₁ s tk₀ hd hu hP G F N B X Tp
  have hC : ChainR w (At g) v ts := hP.mono fun a o e => G a o e (by simp)
  clear hP
  k_with_none
  (try k_unmd); (try dsimp only); (try k_fold)
  focus
    iterate 13 ((try dsimp only); walk1)
  all_goals (try dsimp only)
  refine' while_upd (Str.ofString "here") (Str.ofString "found") (fun n ov o => ∃ dn rest nn u, ts = dn ++ rest ∧ rest.length = n ∧ ov = some u ∧ ChainR w (At g) u rest ∧ o = listOf (dn.map fun p => Value.ref p.1).toArray nn) ts.length ?Y ?F ?N ?U ?h0 ?turn
  case F => assumption
  case N => assumption
  case Y => exact rfl
  case U => k_updF
  case h0 => exact ⟨[], ts, _, v, rfl, rfl, rfl, hC, rfl⟩
  case turn =>
    rintro n ov o h tk ⟨dn, rest, nn, u, e, hn, rfl, hc, rfl⟩ F₁ N₁
    (try dsimp only at N₁)
    cases rest with
    | nil =>
      have hu0 : u = .none := hc
      subst hu0
      focus
        iterate 9 ((try dsimp only); walk1)
        (k_unfold; (try dsimp only))
      exact Done.hd (by assumption) (by assumption) ⟨_, _, rfl, by rw [e, List.append_nil]⟩
    | cons p r =>
      refine byNo fun hno => ?_
      obtain ⟨x, T⟩ := p
      obtain ⟨rfl, hT, hr⟩ := hc
      refine hno ?_
      clear hno
      have hzz : (dn.map fun p => Value.ref p.1).length ≤ 100 := by rw [List.length_map]; rw [e, List.length_append] at hz; omega
      focus
        iterate 15 ((try dsimp only); walk1)
        ((try dsimp only); refine' append_L ?F1 ?N1 ?U1 ?z1 ?_; (case F1 => assumption); (case N1 => assumption); (case U1 => k_updF); (case z1 => k_search 4); (intro _ _ _ N'; (try dsimp only [List.cons_append, List.nil_append] at N'); revert N'; intro _))
        iterate 4 ((try dsimp only); walk1)
        ((try dsimp only); first | refine tyE_parent (by assumption) (by assumption) (TyH.mono (by assumption) (fun a o e => Fr.keep (by assumption) a o e)) (by assumption) ?_ | refine tyg_parent (by assumption) (by assumption) (TyH.mono (by assumption) (fun a o e => Fr.keep (by assumption) a o e)) ?_)
        iterate 3 ((try dsimp only); walk1)
      refine WhEnd.next r.length (by assumption) (by assumption) ⟨dn ++ [(x, T)], r, _, T.parent, by rw [e, List.append_assoc]; rfl, rfl, rfl, hr, (by rw [List.map_append]; rfl)⟩ (by rw [← hn]; simp)
end
set_option maxHeartbeats 1000000

noncomputable def TF.num (T : TF) : Int := match T.number with | .int n _ => n | _ => 0
noncomputable def TF.numbered (T : TF) : Prop := ∃ n t, T.number = .int n t
theorem TF.num_eq {T : TF} (h : T.numbered) : ∃ t, T.number = .int T.num t := by
  obtain ⟨n, t, e⟩ := h
  exact ⟨t, by unfold TF.num; rw [e]⟩
theorem chainAt {w : World} {R : Addr → Obj → Prop} {ts : List (Addr × TF)} : ∀ {v : Value}, ChainR w R v ts → ∀ p ∈ ts, TyH w R p.1 p.2 := by
  induction ts with
  | nil => intro v h p hp; cases hp
  | cons q r ih =>
    intro v h p hp
    obtain ⟨x, T⟩ := q
    rcases List.mem_cons.mp hp with rfl | hp
    · exact h.2.1
    · exact ih h.2.2 p hp
noncomputable def isDesc (ts : List (Addr × TF)) (U : TF) : Bool := ts.any fun p => p.2.num == U.num
section
variable {w : World} {mean : ExcName → Option Value} {mg mb : PySem.Str → Option Value} {dp un : Nat} {gd : Option (List Code)} {env : Env} {outer : List Env} {A₀ : Around} {base h₀ : Heap} {L : Addr} {m : PySem.Str → Option Value} {s : Shared} {Q : Value → Shared → Prop} {E : Value → Shared → Prop} {news : List (Addr × Obj)}
theorem line_use {v : Value} {ts : List (Addr × TF)} (B : Below A₀ base outer h₀) (F : Fr h₀ L s.heap m) (X : (hd.heap_1 w.params).In h₀) (N : News h₀ L s.heap news) (T : TP mean mg mb h₀)
    (hf : env.frame = some L) (hk : env.scope.kind = .function) (hd : dp + 30 < recursionLimit) (hu : un + 2000 < cLine) (hC : ChainR w (At h₀) v ts) (hz : ts.length ≤ 100)
    (ret : ∀ D n h' tk', Fr h₀ L h' m → News h₀ L h' ((D, listOf (ts.map fun p => Value.ref p.1).toArray n) :: news) → Off1 D news → Q (.ref D) { s with heap := h', toks := tk' }) :
    wpAny (model PySem.Challenge.rw_pb0010_01.row.prog w) (topA dp un gd env outer) (call (.ref 154) [v]) Q E s := by
  refine Spec.use0 (line_spec w mean mg mb v ts hz) B F X N T hf hk hd hu (hC.mono fun a o e => F.keep a o e) ?_
  rintro r new h' tk' F' N' hne - ⟨D, n, rfl, rfl⟩
  exact ret D n h' tk' F' N' (off1_of fun q hq => hne q hq _ (.head _))
end
section

theorem desc_spec (w : World) (mean mg mb) (v : Value) (a : Addr) (ts : List (Addr × TF)) (U : TF) (hz : ts.length ≤ 100) (hn : ∀ p ∈ ts, p.2.numbered) (hU : U.numbered) :
    Spec w mean mg mb 161 [v, .ref a] 50 4000 [] (fun h => ChainR w (At h) v ts ∧ TyH w (At h) a U) (fun r _ new => r = .bool (isDesc ts U) ∧ new = []) := by
  refine spec_enter [(Str.ofString "kind", v), (Str.ofString "ancestor", .ref a)] (by k_is) (by k_is) (fun _ => BindsTo.of_eq rfl) (locs rfl) rfl rfl rfl (by decide) ?_
  intro dp un gd env outer base g L' h₁ s tk₀ hd hu hP G F N B X Tp
  have hC : ChainR w (At g) v ts := hP.1.mono fun a o e => G a o e (by simp)
  have hTU : TyH w (At g) a U := hP.2.mono fun a o e => G a o e (by simp)
  obtain ⟨tu, eU⟩ := TF.num_eq hU
  clear hP
  k_with_none
  (try k_unmd); (try dsimp only); (try k_fold)
  focus
    ((try dsimp only); walk1)
    ((try dsimp only); refine For_of ?_)
    iterate 7 ((try dsimp only); walk1)
    ((try dsimp only); refine line_use (by assumption) (by assumption) (by assumption) (by assumption) (by assumption) rfl rfl (by k_search 2) (by k_search 2) (by assumption) (by assumption) ?_; (intro _ _ _ _ _ N' y6; (try dsimp only [List.cons_append, List.nil_append] at N'); revert N' y6; intro _ _))
  all_goals (try dsimp only)
  refine' iter_same (x := Str.ofString "one") (vs := ts.map fun p => Value.ref p.1) (fun i => ∀ p ∈ ts.take i, p.2.num ≠ U.num) rfl ?F ?N ?S ?h0 ?turn ?done
  case F => assumption
  case N => assumption
  case S => exact .inr ⟨_, .head _, rfl, _, rfl⟩
  case h0 => intro p hp; simp at hp
  case turn =>
    intro i v ov h tk I oI hv hk F₁ N₁ off
    obtain ⟨q, hq, rfl⟩ : ∃ q, ts[i]? = some q ∧ v = .ref q.1 := by
      rw [List.getElem?_map, Option.map_eq_some_iff] at hv
      obtain ⟨q, h1, h2⟩ := hv
      exact ⟨q, h1, h2.symm⟩
    obtain ⟨x, T⟩ := q
    have hT : TyH w (At g) x T := chainAt hC _ (List.mem_of_getElem? hq)
    obtain ⟨t1, eT⟩ := TF.num_eq (hn _ (List.mem_of_getElem? hq))
    dsimp only at eT
    dsimp only [List.cons_append, List.nil_append] at N₁
    focus
      focus ((try dsimp only); refine wpAny_assign_Name ?_)
      focus (iterate 7 ((try dsimp only); walk1))
      focus ((try dsimp only); first | refine tyE_number (by assumption) (by assumption) (TyH.mono (by assumption) (fun a o e => Fr.keep (by assumption) a o e)) (by assumption) ?_ | refine tyg_number (by assumption) (by assumption) (TyH.mono (by assumption) (fun a o e => Fr.keep (by assumption) a o e)) ?_)
      focus (iterate 2 ((try dsimp only); walk1))
      focus ((try dsimp only); first | refine tyE_number (by assumption) (by assumption) (TyH.mono (by assumption) (fun a o e => Fr.keep (by assumption) a o e)) (by assumption) ?_ | refine tyg_number (by assumption) (by assumption) (TyH.mono (by assumption) (fun a o e => Fr.keep (by assumption) a o e)) ?_)
      focus (iterate 7 ((try dsimp only); walk1))
      rotate_left
      focus (iterate 3 ((try dsimp only); walk1))
      rotate_left
    · show Done s g L' [] (fun r _ new => r = .bool (isDesc ts U) ∧ new = []) (.bool true) _
      refine Done.new [] (by assumption) News.nil ⟨?_, rfl⟩
      have : isDesc ts U = true := List.any_eq_true.mpr ⟨(x, T), List.mem_of_getElem? hq, beq_iff_eq.mpr (by assumption)⟩
      rw [this]
    · refine SameEnd.next (by assumption) (by assumption) ?_
      rw [take_snoc hq]
      intro p hp
      rcases List.mem_append.mp hp with hp | hp
      · exact hk p hp
      · rw [List.mem_singleton.mp hp]; assumption
  case done =>
    intro ov h tk hk F₁ N₁
    focus
      iterate 3 ((try dsimp only); walk1)
      (k_unfold; (try dsimp only))
    refine Done.new [] (by assumption) News.nil ⟨?_, rfl⟩
    rw [List.length_map, List.take_length] at hk
    have : isDesc ts U = false := List.any_eq_false.mpr fun p hp => by simpa using hk p hp
    rw [this]
end
set_option maxHeartbeats 1000000

section
variable {w : World} {mean : ExcName → Option Value} {mg mb : PySem.Str → Option Value} {dp un : Nat} {gd : Option (List Code)} {env : Env} {outer : List Env} {A₀ : Around} {base h₀ : Heap} {L : Addr} {m : PySem.Str → Option Value} {s : Shared} {Q : Value → Shared → Prop} {E : Value → Shared → Prop} {news : List (Addr × Obj)}
theorem desc_use {v : Value} {a : Addr} {ts : List (Addr × TF)} {U : TF} (B : Below A₀ base outer h₀) (F : Fr h₀ L s.heap m) (X : (hd.heap_1 w.params).In h₀) (N : News h₀ L s.heap news) (T : TP mean mg mb h₀)
    (hf : env.frame = some L) (hk : env.scope.kind = .function) (hd : dp + 50 < recursionLimit) (hu : un + 4000 < cLine) (hC : ChainR w (At h₀) v ts) (hT : TyH w (At h₀) a U) (hz : ts.length ≤ 100) (hn : ∀ p ∈ ts, p.2.numbered) (hU : U.numbered)
    (ret : ∀ h' tk', Fr h₀ L h' m → News h₀ L h' news → Q (.bool (isDesc ts U)) { s with heap := h', toks := tk' }) :
    wpAny (model PySem.Challenge.rw_pb0010_01.row.prog w) (topA dp un gd env outer) (call (.ref 161) [v, .ref a]) Q E s := by
  refine Spec.use0 (desc_spec w mean mg mb v a ts U hz hn hU) B F X N T hf hk hd hu ⟨hC.mono fun a o e => F.keep a o e, hT.mono fun a o e => F.keep a o e⟩ ?_
  rintro r new h' tk' F' N' hne - ⟨rfl, rfl⟩
  exact ret h' tk' F' N'
end
section

theorem DoneR.nil {s : Shared} {g h' : Heap} {L' : Addr} {m' : FMap} {Post : Value → List (Addr × Obj) → Prop} {v : Value} {tk : Nat} (F : Fr g L' h' m') (hp : Post v []) : DoneR s g L' Post v { s with heap := h', toks := tk } :=
  ⟨h', tk, m', [], rfl, F, News.nil, hp⟩
noncomputable def WayPost (tsd tst : List (Addr × TF)) (TD TT : TF) (r : Value) (new : List (Addr × Obj)) : Prop :=
  new = [] ∧ ((isDesc tsd TT = true ∧ ∃ t, r = .str (Str.ofString "up") t) ∨ (isDesc tsd TT = false ∧ isDesc tst TD = true ∧ ∃ t, r = .str (Str.ofString "down") t))
theorem way_spec (w : World) (mean mg mb) (d t : Addr) (tsd tst : List (Addr × TF)) (TD TT : TF) (line : Value) (hz1 : tsd.length ≤ 100) (hz2 : tst.length ≤ 100) (hn1 : ∀ p ∈ tsd, p.2.numbered) (hn2 : ∀ p ∈ tst, p.2.numbered) (h1 : TD.numbered) (h2 : TT.numbered) :
    SpecR w mean mg mb 199 [.ref d, .ref t, line] 60 5000 51 (fun h => ChainR w (At h) (.ref d) tsd ∧ ChainR w (At h) (.ref t) tst ∧ TyH w (At h) d TD ∧ TyH w (At h) t TT) (WayPost tsd tst TD TT) (fun od => FaultDict w line od ∧ isDesc tsd TT = false ∧ isDesc tst TD = false) := by
  refine spec_enterR [(Str.ofString "declared", .ref d), (Str.ofString "target", .ref t), (Str.ofString "line", line)] (by k_is) (by k_is) (fun _ => BindsTo.of_eq rfl) (locs rfl) rfl rfl rfl (by decide) ?_
  intro dp un gd env outer base g L' h₁ s tk₀ hd hu hP G F N B X Tp
  have G' : ∀ a o, At s.heap a o → At g a o := fun a o e => G a o e (by simp)
  have c1 := hP.1.mono G'
  have c2 := hP.2.1.mono G'
  have t1 := hP.2.2.1.mono G'
  have t2 := hP.2.2.2.mono G'
  clear hP
  k_with_none
  (try k_unmd); (try dsimp only); (try k_fold)
  focus
    focus (iterate 12 ((try dsimp only); walk1))
    focus ((try dsimp only); refine desc_use (by assumption) (by assumption) (by assumption) (by assumption) (by assumption) rfl rfl (by k_search 2) (by k_search 2) (by assumption) (by assumption) (by assumption) (by assumption) (by assumption) ?_; (intro _ _ _ _))
    focus (iterate 5 ((try dsimp only); walk1))
    focus (k_unfold; (try dsimp only))
    rotate_left
    focus (iterate 13 ((try dsimp only); walk1))
    focus ((try dsimp only); refine desc_use (by assumption) (by assumption) (by assumption) (by assumption) (by assumption) rfl rfl (by k_search 2) (by k_search 2) (by assumption) (by assumption) (by assumption) (by assumption) (by assumption) ?_; (intro _ _ _ _))
    focus (iterate 5 ((try dsimp only); walk1))
    focus (k_unfold; (try dsimp only))
    rotate_left
    focus (iterate 2 ((try dsimp only); walk1))
    focus ((try dsimp only); first | (refine raise51 rfl ?_; (fail_if_success (with_reducible show wpAny _ _ (eval (PySem.Expr.Call (PySem.Expr.Name (Str.ofString "AdaRaise") _) _ _ _) _) _ _ _))) | refine raise70 rfl ?_)
    focus (iterate 9 ((try dsimp only); walk1))
    focus ((try dsimp only); refine fault_call (by assumption) (by assumption) (by assumption) (by assumption) (by assumption) rfl rfl (by k_search 2) (by k_search 2) ?_; (intro _ _ _ _ _ _ _ _ _ _ _))
    focus (((with_reducible show RaiseOk 51 _ _ _ _); refine raiseOk51 (by assumption) (by assumption) (by assumption) ?_))
    focus (k_unfold; (try dsimp only))
    rotate_left
  · exact DoneR.nil (by assumption) ⟨rfl, .inl ⟨by assumption, _, rfl⟩⟩
  · exact DoneR.nil (by assumption) ⟨rfl, .inr ⟨(by first | assumption | exact Bool.eq_false_iff.mpr (by assumption)), by assumption, _, rfl⟩⟩
  · exact lost_here (by assumption) (by assumption) (by assumption) (by assumption) ⟨⟨_, _, _, rfl⟩, (by first | assumption | exact Bool.eq_false_iff.mpr (by assumption)), (by first | assumption | exact Bool.eq_false_iff.mpr (by assumption))⟩ rfl rfl
theorem checkview_spec (w : World) (mean mg mb) (v : Value) (t : Addr) (tsd : List (Addr × TF)) (TT : TF) (line : Value) (hz1 : tsd.length ≤ 100) (hn1 : ∀ p ∈ tsd, p.2.numbered) (h2 : TT.numbered) :
    SpecR w mean mg mb 192 [v, .ref t, line] 60 5000 70 (fun h => ChainR w (At h) v tsd ∧ TyH w (At h) t TT) (fun r new => new = [] ∧ r = .none ∧ isDesc tsd TT = true) (fun od => isDesc tsd TT = false ∧ ∃ tk, RaiseDict w (.str (Str.ofString "constraint_error") tk) line od) := by
  refine spec_enterR [(Str.ofString "tag", v), (Str.ofString "target", .ref t), (Str.ofString "line", line)] (by k_is) (by k_is) (fun _ => BindsTo.of_eq rfl) (locs rfl) rfl rfl rfl (by decide) ?_
  intro dp un gd env outer base g L' h₁ s tk₀ hd hu hP G F N B X Tp
  have G' : ∀ a o, At s.heap a o → At g a o := fun a o e => G a o e (by simp)
  have c1 := hP.1.mono G'
  have t2 := hP.2.mono G'
  clear hP
  k_with_none
  (try k_unmd); (try dsimp only); (try k_fold)
  focus
    focus (iterate 13 ((try dsimp only); walk1))
    focus ((try dsimp only); refine desc_use (by assumption) (by assumption) (by assumption) (by assumption) (by assumption) rfl rfl (by k_search 2) (by k_search 2) (by assumption) (by assumption) (by assumption) (by assumption) (by assumption) ?_; (intro _ _ _ _))
    focus (iterate 5 ((try dsimp only); walk1))
    focus (k_unfold; (try dsimp only))
    rotate_left
    focus ((try dsimp only); walk1)
    focus ((try dsimp only); first | (refine raise51 rfl ?_; (fail_if_success (with_reducible show wpAny _ _ (eval (PySem.Expr.Call (PySem.Expr.Name (Str.ofString "AdaRaise") _) _ _ _) _) _ _ _))) | refine raise70 rfl ?_)
    focus (iterate 11 ((try dsimp only); walk1))
    focus ((try dsimp only); refine raise_call (by assumption) (by assumption) (by assumption) (by assumption) (by assumption) rfl rfl (by k_search 2) (by k_search 2) ?_; (intro _ _ _ _ _ _ _ _ _ _ _ _ _))
    focus (((with_reducible show RaiseOk 70 _ _ _ _); refine raiseOk70 (by assumption) (by assumption) (by assumption) ?_))
    focus (k_unfold; (try dsimp only))
    rotate_left
  · exact DoneR.nil (by assumption) ⟨rfl, rfl, by assumption⟩
  · exact lost_here (by assumption) (by assumption) (by assumption) (by assumption) ⟨(by first | assumption | exact Bool.eq_false_iff.mpr (by assumption)), _, _, _, _, _, _, rfl⟩ rfl rfl
end
section
open PySem PySem.W PyProof.Rows PySem.Calls PySem.SeqAt PySem.Spec PyProof.Rows.LCg
set_option maxRecDepth 100000
set_option maxHeartbeats 1000000
section
variable {prog : Program} {w : World} {A : Around} {E : Value → Shared → Prop} {s : Shared} {h₀ : Heap} {L l b : Addr} {m : PySem.Str → Option Value} {news : List (Addr × Obj)} {value slice : PySem.Expr} {vs ws : List Value} {x : Value} {k : Int} {u : Tok} {Q : Value → Shared → Prop}
theorem item_at (hl : s.heap.IsList l vs.toArray) (h0 : 0 ≤ k) (h1 : k < 100000) (hx : vs[k.toNat]? = some x) (h : Q x s)
    (hs : subscripted slice false (.ref l) (.int k u) = operate [.ref l, .int k u] (getItem (.ref l) (.int k u)) := by with_unfolding_all rfl) :
    wpAny (model prog w) A (subscriptTail value slice (.ref l) (.int k u)) Q E s :=
  tail_any hl.typeIs list_getitem_lookup (wpAny_getItem_list hl h0 (by omega) (by simpa using hx) h) hs
theorem item_last (hl : s.heap.IsList l vs.toArray) (hx : vs.getLast? = some x) (h : Q x s)
    (hs : subscripted slice false (.ref l) (.int (-1) u) = operate [.ref l, .int (-1) u] (getItem (.ref l) (.int (-1) u)) := by with_unfolding_all rfl) :
    wpAny (model prog w) A (subscriptTail value slice (.ref l) (.int (-1) u)) Q E s := by
  have hne : vs.length ≠ 0 := fun z => by
    rw [List.length_eq_zero_iff.mp z] at hx; cases hx
  refine tail_any hl.typeIs list_getitem_lookup (wpAny_getItem_list_neg hl (by decide) (by rw [List.size_toArray]; omega) (by decide) ?_ h) hs
  rw [List.getLast?_eq_getElem?] at hx
  rw [List.size_toArray, show (-1 + (vs.length : Int)).toNat = vs.length - 1 by omega]
  simpa using hx
end
structure BE where
  par : Int
  own : List PySem.Str
noncomputable abbrev entKvs (par : Int) (tk : Tok) (oA : Addr) (extra : List (PySem.Str × Value)) : List (PySem.Str × Value) := (Str.ofString "parent", .int par tk) :: (Str.ofString "own", .ref oA) :: extra
theorem ent_parent {par : Int} {tk : Tok} {oA : Addr} {extra : List (PySem.Str × Value)} : valueAt (entKvs par tk oA extra) (Str.ofString "parent") = some (.int par tk) := rfl
theorem ent_own {par : Int} {tk : Tok} {oA : Addr} {extra : List (PySem.Str × Value)} : valueAt (entKvs par tk oA extra) (Str.ofString "own") = some (.ref oA) := rfl
theorem ent_fixed {par : Int} {tk : Tok} {oA fA : Addr} : valueAt (entKvs par tk oA [(Str.ofString "fixed", .ref fA)]) (Str.ofString "fixed") = some (.ref fA) := rfl
noncomputable def EntR (w : World) (R : Addr → Obj → Prop) (v : Value) (e : BE) : Prop :=
  ∃ d od oA tk extra ws n, v = .ref d ∧ R d od ∧ od.IsDictOf (SK w) (entKvs e.par tk oA extra) ∧ R oA (listOf ws.toArray n) ∧ StrsAre ws e.own
theorem EntR.mono {w : World} {R R' : Addr → Obj → Prop} {v : Value} {e : BE} (h : EntR w R v e) (k : ∀ a o, R a o → R' a o) : EntR w R' v e := by
  refine byNo fun hno => ?_
  obtain ⟨d, od, oA, tk, extra, ws, n, h1, h2, h3, h4, h5⟩ := h
  refine hno ?_
  clear hno
  exact ⟨d, od, oA, tk, extra, ws, n, h1, k _ _ h2, h3, k _ _ h4, h5⟩
noncomputable def EntsR (w : World) (R : Addr → Obj → Prop) (vs : List Value) (es : List BE) : Prop := vs.length = es.length ∧ ∀ (i : Nat) (e : BE), es[i]? = some e → ∃ v, vs[i]? = some v ∧ EntR w R v e
theorem EntsR.mono {w : World} {R R' : Addr → Obj → Prop} {vs : List Value} {es : List BE} (h : EntsR w R vs es) (k : ∀ a o, R a o → R' a o) : EntsR w R' vs es :=
  ⟨h.1, fun i x e => let ⟨v, e1, r⟩ := h.2 i x e; ⟨v, e1, r.mono k⟩⟩
theorem EntsR.snoc {w : World} {R : Addr → Obj → Prop} {vs : List Value} {es : List BE} {v : Value} {e : BE} (h : EntsR w R vs es) (k : EntR w R v e) : EntsR w R (vs ++ [v]) (es ++ [e]) := by
  refine ⟨by simp [h.1], fun i x ex => ?_⟩
  by_cases hi : i < es.length
  · rw [List.getElem?_append_left hi] at ex
    rw [List.getElem?_append_left (h.1 ▸ hi)]
    exact h.2 i x ex
  · have hi' : es.length ≤ i := Nat.le_of_not_lt hi
    rw [List.getElem?_append_right hi'] at ex
    rw [List.getElem?_append_right (h.1 ▸ hi'), h.1]
    cases hq : i - es.length with
    | zero => rw [hq] at ex; simp at ex; subst ex; exact ⟨v, rfl, k⟩
    | succ i => rw [hq] at ex; simp at ex
noncomputable def UpR (es : List BE) : Int → List Nat → Prop
  | p, [] => p = -1
  | p, j :: r => p = (j : Int) ∧ ∃ e, es[j]? = some e ∧ UpR es e.par r
theorem UpR.mono {es : List BE} {e : BE} : ∀ {p : Int} {js : List Nat}, UpR es p js → UpR (es ++ [e]) p js
  | _, [], h => h
  | _, _ :: _, ⟨h, f, e1, r⟩ => ⟨h, f, by
      rw [List.getElem?_append_left (by
        rcases Nat.lt_or_ge _ es.length with z | z
        · exact z
        · rw [List.getElem?_eq_none z] at e1; cases e1)]
      exact e1, UpR.mono r⟩
theorem UpR.unique {es : List BE} : ∀ {p : Int} {js ks : List Nat}, UpR es p js → UpR es p ks → js = ks
  | _, [], [], _, _ => rfl
  | _, [], _ :: _, h, ⟨k, _⟩ => by have h' : _ = (-1 : Int) := h; omega
  | _, _ :: _, [], ⟨h, _⟩, k => by have k' : _ = (-1 : Int) := k; omega
  | _, j :: r, k :: q, ⟨h, e, e1, x⟩, ⟨h', e', e1', x'⟩ => by
    have : j = k := by omega
    subst this
    rw [e1] at e1'
    obtain rfl := Option.some.inj e1'
    rw [UpR.unique x x']
end
set_option maxHeartbeats 1000000

noncomputable def AbvPost (js : List Nat) (r : Value) (_upd new : List (Addr × Obj)) : Prop := ∃ D n vs, r = .ref D ∧ new = [(D, listOf vs.toArray n)] ∧ IntsAre vs (js.map fun (j : Nat) => (j : Int))
theorem above_end {s : Shared} {g h' : Heap} {L' D : Addr} {m' : FMap} {rest : List (Addr × Obj)} {js : List Nat} {vs : List Value} {n tk : Nat} (F : Fr g L' h' m') (N : News g L' h' ((D, listOf vs.toArray n) :: rest)) (hi : IntsAre vs (js.map fun (j : Nat) => (j : Int))) :
    Done s g L' [] (AbvPost js) (.ref D) { s with heap := h', toks := tk } := Done.hd F N ⟨_, _, _, rfl, rfl, hi⟩
section

noncomputable def AbvK (es : List BE) (js : List Nat) (n : Nat) (_ov : Option Value) (o : Obj) : Prop :=
  ∃ (dn : List Nat) (j : Nat) (rest : List Nat) (vs : List Value) (nn : Nat) (e : BE) (t : Tok), js = dn ++ j :: rest ∧ rest.length = n ∧ es[j]? = some e ∧ UpR es e.par rest ∧ o = listOf vs.toArray nn ∧ IntsAre vs ((dn ++ [j]).map fun (j : Nat) => (j : Int)) ∧ vs.getLast? = some (.int (j : Int) t)
theorem above_spec (w : World) (mean mg mb) (bl : Addr) (bs : List Value) (nb : Nat) (es : List BE) (one : Int) (t0 : Tok) (js : List Nat) (hj : UpR es one js) (h0 : 0 ≤ one) (hz : js.length ≤ 100) (hz2 : es.length ≤ 100) :
    Spec w mean mg mb 237 [.ref bl, .int one t0] 30 2000 [] (fun h => At h bl (listOf bs.toArray nb) ∧ EntsR w (At h) bs es) (AbvPost js) := by
  refine spec_enter [(Str.ofString "book", .ref bl), (Str.ofString "one", .int one t0)] (by k_is) (by k_is) (fun _ => BindsTo.of_eq rfl) (locs rfl) rfl rfl rfl (by decide) ?_
  intro dp un gd env outer base g L' h₁ s tk₀ hd hu hP G F N B X Tp
  have hB : At g bl (listOf bs.toArray nb) := G _ _ hP.1 (by simp)
  have hE : EntsR w (At g) bs es := hP.2.mono fun a o e => G a o e (by simp)
  have hBl : g.IsList bl bs.toArray := isListOf hB
  clear hP
  obtain ⟨j, rest, rfl⟩ : ∃ j rest, js = j :: rest := by
    cases js with
    | nil => have : one = -1 := hj; omega
    | cons j r => exact ⟨j, r, rfl⟩
  refine byNo fun hno => ?_
  obtain ⟨rfl, e, he, hr⟩ := hj
  refine hno ?_
  clear hno
  k_with_none
  (try k_unmd); (try dsimp only); (try k_fold)
  focus
    iterate 10 ((try dsimp only); walk1)
  all_goals (try dsimp only)
  refine' while_upd (Str.ofString "zz") (Str.ofString "found") (AbvK es (j :: rest)) rest.length ?Y ?F ?N ?U ?h0 ?turn
  case F => assumption
  case N => assumption
  case Y => exact rfl
  case U => k_updF
  case h0 => exact ⟨[], j, rest, _, _, e, t0, rfl, rfl, he, hr, rfl, .cons _ _ .nil, rfl⟩
  case turn =>
    clear he hr h0
    rintro n ov o h tk ⟨dn, j', rest', vs, nn, e', t', ej, hn, he, hr, rfl, hi, hlast⟩ F₁ N₁
    (try dsimp only at N₁)
    refine byNo fun hno => ?_
    obtain ⟨v, hv, d, od, oA, tkp, extra, ws, n5, rfl, hd1, hd2, hd3, hd4⟩ := hE.2 _ _ he
    refine hno ?_
    clear hno
    have hjl : j' < es.length := by
      rcases Nat.lt_or_ge j' es.length with z | z
      · exact z
      · rw [List.getElem?_eq_none z] at he; cases he
    have hv' : bs[((j' : Nat) : Int).toNat]? = some (.ref d) := by simpa using hv
    have hvl : vs.length ≤ 100 := by
      rw [hi.length, List.length_map]
      have := congrArg List.length ej
      simp at this hz ⊢
      omega
    cases rest' with
    | nil =>
      have hp : e'.par = -1 := hr
      rw [hp] at hd2
      focus
        iterate 9 ((try dsimp only); walk1)
        ((try dsimp only); refine item_last (by first | exact Heap.IsList.at (by assumption) (fun o e => Fr.keep (by assumption) _ o e) | exact isListOf (News.get (by assumption) (by k_search 3))) (by first | assumption | simp) ?_)
        ((try dsimp only); refine item_at (by first | exact Heap.IsList.at (by assumption) (fun o e => Fr.keep (by assumption) _ o e) | exact isListOf (News.get (by assumption) (by k_search 3))) (by omega) (by omega) (by assumption) ?_)
        ((try dsimp only); walk1)
        ((try dsimp only); refine sub_dict (Heap.dictOf_iff.mpr ⟨_, Fr.keep (by assumption) _ _ (by assumption), (by assumption)⟩) (by first | exact ent_parent | exact ent_own) ?_; (intro _))
        iterate 8 ((try dsimp only); walk1)
        (k_unfold; (try dsimp only))
      exact above_end (by assumption) (by assumption) (ej ▸ hi)
    | cons k r =>
      refine byNo fun hno => ?_
      obtain ⟨hp, e2, he2, hr2⟩ := hr
      refine hno ?_
      clear hno
      rw [hp] at hd2
      focus
        iterate 9 ((try dsimp only); walk1)
        ((try dsimp only); refine item_last (by first | exact Heap.IsList.at (by assumption) (fun o e => Fr.keep (by assumption) _ o e) | exact isListOf (News.get (by assumption) (by k_search 3))) (by first | assumption | simp) ?_)
        ((try dsimp only); refine item_at (by first | exact Heap.IsList.at (by assumption) (fun o e => Fr.keep (by assumption) _ o e) | exact isListOf (News.get (by assumption) (by k_search 3))) (by omega) (by omega) (by assumption) ?_)
        ((try dsimp only); walk1)
        ((try dsimp only); refine sub_dict (Heap.dictOf_iff.mpr ⟨_, Fr.keep (by assumption) _ _ (by assumption), (by assumption)⟩) (by first | exact ent_parent | exact ent_own) ?_; (intro _))
        iterate 20 ((try dsimp only); walk1)
        ((try dsimp only); refine item_last (by first | exact Heap.IsList.at (by assumption) (fun o e => Fr.keep (by assumption) _ o e) | exact isListOf (News.get (by assumption) (by k_search 3))) (by first | assumption | simp) ?_)
        ((try dsimp only); refine item_at (by first | exact Heap.IsList.at (by assumption) (fun o e => Fr.keep (by assumption) _ o e) | exact isListOf (News.get (by assumption) (by k_search 3))) (by omega) (by omega) (by assumption) ?_)
        ((try dsimp only); walk1)
        ((try dsimp only); refine sub_dict (Heap.dictOf_iff.mpr ⟨_, Fr.keep (by assumption) _ _ (by assumption), (by assumption)⟩) (by first | exact ent_parent | exact ent_own) ?_; (intro _))
        ((try dsimp only); walk1)
        ((try dsimp only); refine' append_L ?F1 ?N1 ?U1 ?z1 ?_; (case F1 => assumption); (case N1 => assumption); (case U1 => k_updF); (case z1 => k_search 4); (intro _ _ _ N'; (try dsimp only [List.cons_append, List.nil_append] at N'); revert N'; intro _))
        ((try dsimp only); walk1)
      all_goals (try dsimp only)
      first
      | exact WhEnd.next0 r.length (by assumption) (by assumption) ⟨dn ++ [j'], k, r, _, _, e2, _, by rw [ej]; simp, rfl, he2, hr2, rfl, (by rw [List.map_append]; exact intsAre_append hi (.cons _ _ .nil)), List.getLast?_concat⟩ (by rw [← hn]; simp)
end
section
open PySem PySem.W PyProof.Rows PySem.Calls PySem.SeqAt PySem.Spec PyProof.Rows.LCg
set_option maxRecDepth 100000
set_option maxHeartbeats 1000000
theorem seq_list_iadd : seqSlot? (.type "list") (dunderI "add") = pure (some (.builtin "list.__iadd__")) := PySem.seqSlot_of PySem.F.slot_list_iadd.lookup (by decide +kernel)
section
variable {prog : Program} {w : World} {A : Around} {E : Value → Shared → Prop} {s : Shared} {h₀ : Heap} {L D b l : Addr} {m : PySem.Str → Option Value} {news : List (Addr × Obj)} {vs ws : List Value} {n n2 : Nat} {gg : Obj → List (Addr × Obj)} {Q : Value → Shared → Prop} {value slice : PySem.Expr}
theorem iadd_L (F : Fr h₀ L s.heap m) (N : News h₀ L s.heap news) (hb : s.heap.get? b = some (listOf ws.toArray n2)) (U : UpdF D (listOf vs.toArray n) news gg) (hz : vs.length ≤ 1000) (hz2 : ws.length ≤ 1000)
    (h : ∀ h' n', Fr h₀ L h' m → News h₀ L h' (gg (listOf (vs ++ ws).toArray n')) → Q (.ref D) { s with heap := h' }) : wpAny (model prog w) A (inplaceOp .Add (.ref D) (.ref b)) Q E s := by
  refine byNo fun hno => ?_
  obtain ⟨pre, post, rfl, hg, a, c⟩ := U.split
  refine hno ?_
  clear hno
  have z := N (D, listOf vs.toArray n) (List.mem_append.mpr (.inr (.head _)))
  have hd : ¬(!vs.toArray.isEmpty && Builtin.List.listTooLong (vs.toArray.size + ws.toArray.size)) = true := by
    simp only [List.size_toArray, Builtin.List.listTooLong]
    simp [sizeLine_eq]
    intros; omega
  have ha : s.TypeIs (.ref D) "list" := ⟨_, z.1, rfl⟩
  have hb' : s.TypeIs (.ref b) "list" := ⟨_, hb, rfl⟩
  have hc : wpAny (model prog w) A (call (.builtin "list.__iadd__") [.ref D, .ref b]) Q E s := by
    refine call_meets PySem.F.slot_list_iadd ha PySem.F.entry_list_iadd (PySem.F.args_list_iadd_2 _ _) (PySem.AutoSeq1.list___iadd___list_list_0 D vs.toArray n b ws.toArray n2 hd (by simp [sizeLine_eq]; omega) (by simp [sizeLine_eq]; omega)) ⟨z.1, hb, ?_⟩
    have Fc : Fr h₀ L (s.heap.update D (Obj.mapSeq fun x => x ++ ws.toArray)) m := F.change (Heap.SameBut.update ..) z.2.1 z.2.2
    cases ws with
    | nil =>
      refine h _ n Fc ?_
      rw [hg]
      exact kl_turn0 (its := vs.toArray) (fun x => x ++ #[]) N a c (by simp) (by simp)
    | cons x r =>
      refine h _ (n + 1) Fc ?_
      rw [hg]
      exact kl_turn (its := vs.toArray) (fun y => y ++ (x :: r).toArray) N a c (by simp) (by simp)
  unfold inplaceOp
  refine wpAny_holding ?_
  have hfi : fillsInplaceSlot (.type "list") "add" (Operator.Add == .Add) = pure false := by
    unfold fillsInplaceSlot
    show (typeLookup (.type "list") (dunderI "add") >>= fun fi => pure (fi.isSome && !isSeqSlot fi)) = pure false
    rw [PySem.F.slot_list_iadd.lookup, pure_bind]
    congr 1
  refine wpAny_bind (wpAny_typeOf ha (wpAny_bind (wpAny_of_eq hfi ?_)))
  show wpAny _ A (if false = true then _ else _) Q E s
  rw [if_neg Bool.false_ne_true]
  refine wpAny_bind (wpAny_binaryOp1_none (nm := "add") ha hb' noFill_list_add ?_)
  refine wpAny_bind (wpAny_of_eq seq_list_iadd ?_)
  exact wpAny_bind (wpAny_rule hc)
theorem slice_rev {ops : List Value} {hh : Heap} {gs : Array GenState} {dr : Drawn} {tk : Nat} {os : OsState} {u : Tok} (F : Fr h₀ L hh m) (N : News h₀ L hh news) (hl : hh.IsList l vs.toArray)
    (h : ∀ D h', Fr h₀ L h' m → News h₀ L h' ((D, listOf vs.reverse.toArray 0) :: news) → (∀ p ∈ news, @LT.lt Nat _ p.1 D) → Q (.ref D) ⟨h', gs, dr, tk, os⟩)
    (hs : subscripted slice false (.ref l) (.ref hh.objs.size) = operate ops (getItem (.ref l) (.ref hh.objs.size))) (hz : vs.length ≤ sizeLine) :
    wpAny (model prog w) A (subscriptTail value slice (.ref l) (.ref hh.objs.size)) Q E ⟨hh.push { cls := .type "slice", data := .fields #[.none, .none, .int (-1) u] }, gs, dr, tk, os⟩ := by
  refine slice_any (s := ⟨hh, gs, dr, tk, os⟩) F N hl IsPart.none IsPart.none (IsPart.int _ _) (by decide) (fun h' F' N' => h _ h' F' ?_ fun p hp => Nat.lt_succ_of_lt (Heap.lt_size (N p hp).1)) hs (by rw [List.size_toArray]; exact hz)
  rw [krv_pick] at N'
  exact N'
end
theorem map_store {x : PySem.Str} {v : Value} {m : FMap} (h : m x = some v) : (fun y => if y = x then some v else m y) = m := by
  funext y
  by_cases e : y = x
  · rw [if_pos e, e, h]
  · rw [if_neg e]
theorem UpdEnd.nextS {h₀ : Heap} {s : Shared} {Q : Flow → Shared → Prop} {m : FMap} {L I : Addr} {oI o' : Obj} {x z : PySem.Str} {v : Value} {gg : Obj → List (Addr × Obj)} {Kn : Obj → Prop} {h' : Heap} {tk' : Nat} {a b : Option Value} (hz : z ≠ x) (hm : m z = some v) (F : Fr h₀ L h' (fun y => if y = z then some v else (fun y => if y = x then a else (fun y => if y = x then b else m y) y) y)) (N : News h₀ L h' (gg o' ++ [(I, oI)])) (k : Kn o') :
    UpdEnd h₀ L I oI x m gg Kn Q s .next { s with heap := h', toks := tk' } :=
  UpdEnd.next (a := a) (b := b) ((map_store (m := fun y => if y = x then a else (fun y => if y = x then b else m y) y) (x := z) (v := v) (by
    show (if z = x then a else if z = x then b else m z) = some v
    rw [if_neg hz, if_neg hz, hm])) ▸ F) N k
theorem strs_reverse {vs : List Value} {xs : List PySem.Str} (h : StrsAre vs xs) : StrsAre vs.reverse xs.reverse := by
  induction h with
  | nil => exact .nil
  | cons y t _ ih => rw [List.reverse_cons, List.reverse_cons]; exact ih.append' (.cons y t .nil)
noncomputable def ownOf (es : List BE) (j : Nat) : List PySem.Str := match es[j]? with | some e => e.own | none => []
noncomputable def namesOf (es : List BE) (js : List Nat) : List PySem.Str := js.reverse.flatMap (ownOf es)
theorem ints_at {vs : List Value} {ns : List Int} (h : IntsAre vs ns) : ∀ (i : Nat) (v : Value), vs[i]? = some v → ∃ n t, ns[i]? = some n ∧ v = .int n t := by
  induction h with
  | nil => intro i v e; simp at e
  | cons n t _ ih =>
    intro i v e
    cases i with
    | zero => exact ⟨n, t, rfl, by simpa using e.symm⟩
    | succ i => exact ih i v (by simpa using e)
end
set_option maxHeartbeats 1000000

section
variable {w : World} {mean : ExcName → Option Value} {mg mb : PySem.Str → Option Value} {dp un : Nat} {gd : Option (List Code)} {env : Env} {outer : List Env} {A₀ : Around} {base h₀ : Heap} {L : Addr} {m : PySem.Str → Option Value} {s : Shared} {Q : Value → Shared → Prop} {E : Value → Shared → Prop} {news : List (Addr × Obj)}
theorem off1_apart {D : Addr} {o : Obj} {news : List (Addr × Obj)} (h : ∀ q ∈ news, ∀ p ∈ [(D, o)], q.1 ≠ p.1) : Off1 D news := off1_of fun q hq => h q hq _ (.head _)
theorem above_use {bl : Addr} {one : Int} {t0 : Tok} {bs : List Value} {nb : Nat} {es : List BE} {js : List Nat} (B : Below A₀ base outer h₀) (F : Fr h₀ L s.heap m) (X : (hd.heap_1 w.params).In h₀) (N : News h₀ L s.heap news) (T : TP mean mg mb h₀)
    (hf : env.frame = some L) (hk : env.scope.kind = .function) (hd : dp + 30 < recursionLimit) (hu : un + 2000 < cLine) (hb : At h₀ bl (listOf bs.toArray nb)) (hE : EntsR w (At h₀) bs es) (hj : UpR es one js) (h0 : 0 ≤ one) (hz : js.length ≤ 100) (hz2 : es.length ≤ 100)
    (ret : ∀ D n vs h' tk', Fr h₀ L h' m → News h₀ L h' ((D, listOf vs.toArray n) :: news) → Off1 D news → IntsAre vs (js.map fun (j : Nat) => (j : Int)) → Q (.ref D) { s with heap := h', toks := tk' }) :
    wpAny (model PySem.Challenge.rw_pb0010_01.row.prog w) (topA dp un gd env outer) (call (.ref 237) [.ref bl, .int one t0]) Q E s := by
  refine Spec.use0 (above_spec w mean mg mb bl bs nb es one t0 js hj h0 hz hz2) B F X N T hf hk hd hu ⟨F.keep _ _ hb, hE.mono fun a o e => F.keep a o e⟩ ?_
  rintro r new h' tk' F' N' hne - ⟨D, n, vs, rfl, rfl, hi⟩
  exact ret D n vs h' tk' F' N' (off1_apart hne) hi
end
theorem UpR.get {es : List BE} : ∀ {p : Int} {js : List Nat}, UpR es p js → ∀ j ∈ js, ∃ e, es[j]? = some e
  | _, [], _, _, h => by cases h
  | _, _ :: _, ⟨_, e, e1, r⟩, j, h => by
    rcases List.mem_cons.mp h with rfl | h
    · exact ⟨e, e1⟩
    · exact UpR.get r j h
noncomputable def NmsPost (es : List BE) (js : List Nat) (r : Value) (_upd new : List (Addr × Obj)) : Prop := ∃ D n vs, r = .ref D ∧ new = [(D, listOf vs.toArray n)] ∧ StrsAre vs (namesOf es js)
theorem names_end {s : Shared} {g h' : Heap} {L' D : Addr} {m' : FMap} {all : List (Addr × Obj)} {es : List BE} {js : List Nat} {vs : List Value} {n tk : Nat} (F : Fr g L' h' m') (N : News g L' h' all) (hm : (D, listOf vs.toArray n) ∈ all) (hi : StrsAre vs (namesOf es js)) :
    Done s g L' [] (NmsPost es js) (.ref D) { s with heap := h', toks := tk } := Done.new [(D, listOf vs.toArray n)] F (fun p hp => N p (by rw [List.mem_singleton.mp hp]; exact hm)) ⟨_, _, _, rfl, rfl, hi⟩
noncomputable def NmsK (es : List BE) (js : List Nat) (i : Nat) (o : Obj) : Prop := ∃ us nn, o = listOf us.toArray nn ∧ StrsAre us ((js.reverse.take i).flatMap (ownOf es)) ∧ us.length ≤ 10 * i
section

theorem names_spec (w : World) (mean mg mb) (bl : Addr) (bs : List Value) (nb : Nat) (es : List BE) (one : Int) (t0 : Tok) (js : List Nat) (hj : UpR es one js) (h0 : 0 ≤ one) (hz : js.length ≤ 50) (hz2 : es.length ≤ 50) (hown : ∀ e ∈ es, e.own.length ≤ 10) :
    Spec w mean mg mb 244 [.ref bl, .int one t0] 60 4000 [] (fun h => At h bl (listOf bs.toArray nb) ∧ EntsR w (At h) bs es) (NmsPost es js) := by
  refine spec_enter [(Str.ofString "book", .ref bl), (Str.ofString "one", .int one t0)] (by k_is) (by k_is) (fun _ => BindsTo.of_eq rfl) (locs rfl) rfl rfl rfl (by decide) ?_
  intro dp un gd env outer base g L' h₁ s tk₀ hd hu hP G F N B X Tp
  have hB : At g bl (listOf bs.toArray nb) := G _ _ hP.1 (by simp)
  have hE : EntsR w (At g) bs es := hP.2.mono fun a o e => G a o e (by simp)
  have hBl : g.IsList bl bs.toArray := isListOf hB
  clear hP
  k_with_none
  (try k_unmd); (try dsimp only); (try k_fold)
  focus
    iterate 8 ((try dsimp only); walk1)
    ((try dsimp only); refine For_of ?_)
    iterate 10 ((try dsimp only); walk1)
    ((try dsimp only); refine above_use (by assumption) (by assumption) (by assumption) (by assumption) (by assumption) rfl rfl (by k_search 2) (by k_search 2) (by assumption) (by assumption) (by assumption) (by omega) (by omega) (by omega) ?_; (intro _ _ _ _ _ _ _ _ hi; (have hil := IntsAre.length hi); (try simp only [List.length_map] at hil); revert hi hil; intro _ _))
    iterate 7 ((try dsimp only); walk1)
    ((try dsimp only); refine' slice_rev (by assumption) (by assumption) ?l2 ?_ ?s2 ?z2; (case l2 => first | exact Heap.IsList.at (by assumption) (fun o e => Fr.keep (by assumption) _ o e) | exact isListOf (News.get (by assumption) (by k_search 3))); (case s2 => with_unfolding_all rfl); (case z2 => k_search 4); (intro _ _ _ _ lt; (try replace lt := allLt_of lt); revert lt; intro _))
  all_goals (try dsimp only)
  refine' iter_updN (Str.ofString "names") (x := Str.ofString "at") (NmsK es js) ?Y ?H ?F ?N ?U ?S ?h0 ?turn ?done
  case F => assumption
  case N => assumption
  case H => rfl
  case Y => exact rfl
  case U => k_updF
  case S => intro o; exact .inr ⟨_, .head _, rfl, _, rfl⟩
  case h0 => exact ⟨[], _, rfl, .nil, Nat.le_refl _⟩
  case turn =>
    rintro i v ov o h tk I oI hv ⟨us, nn, rfl, hus, hul⟩ F₁ N₁ off
    (try dsimp only [List.cons_append, List.nil_append] at N₁)
    skip
    (try dsimp only at N₁ off)
    have hi := ‹IntsAre _ _›
    refine byNo fun hno => ?_
    obtain ⟨nj, tj, hnj, rfl⟩ := ints_at hi.reverse i v hv
    refine hno ?_
    clear hno
    rw [← List.map_reverse, List.getElem?_map] at hnj
    refine byNo fun hno => ?_
    obtain ⟨j, hj1, rfl⟩ := Option.map_eq_some_iff.mp hnj
    obtain ⟨e, he⟩ := hj.get j (List.mem_reverse.mp (List.mem_of_getElem? hj1))
    obtain ⟨v, hv2, d, od, oA, tkp, extra, ws, n5, rfl, hd1, hd2, hd3, hd4⟩ := hE.2 _ _ he
    refine hno ?_
    clear hno
    have hjl : j < es.length := by
      rcases Nat.lt_or_ge j es.length with z | z
      · exact z
      · rw [List.getElem?_eq_none z] at he; cases he
    have hil2 : i < js.length := by
      have := List.mem_of_getElem? hj1
      rcases Nat.lt_or_ge i js.reverse.length with z | z
      · rwa [List.length_reverse] at z
      · rw [List.getElem?_eq_none z] at hj1; cases hj1
    have hv' : bs[((j : Nat) : Int).toNat]? = some (.ref d) := by simpa using hv2
    have hwl : ws.length ≤ 10 := by rw [hd4.length]; exact hown e (List.mem_of_getElem? he)
    have hof : ownOf es j = e.own := by unfold ownOf; rw [he]
    focus
      ((try dsimp only); refine wpAny_assign_Name ?_)
      iterate 9 ((try dsimp only); walk1)
      ((try dsimp only); refine item_at (by first | exact Heap.IsList.at (by assumption) (fun o e => Fr.keep (by assumption) _ o e) | exact isListOf (News.get (by assumption) (by k_search 3))) (by omega) (by omega) (by assumption) ?_)
      ((try dsimp only); walk1)
      ((try dsimp only); refine sub_dict (Heap.dictOf_iff.mpr ⟨_, Fr.keep (by assumption) _ _ (by assumption), (by assumption)⟩) (by first | exact ent_parent | exact ent_own) ?_; (intro _))
      ((try dsimp only); refine' iadd_L ?F1 ?N1 ?B1 ?U1 ?z1 ?y1 ?_; (case F1 => assumption); (case N1 => assumption); (case B1 => first | exact News.get (by assumption) (by k_search 3) | exact Fr.keep (by assumption) _ _ (by assumption)); (case U1 => k_updF); (case z1 => k_search 4); (case y1 => k_search 4); (intro _ _ _ N'; (try dsimp only [List.cons_append, List.nil_append] at N'); revert N'; intro _))
      iterate 3 ((try dsimp only); walk1)
    refine UpdEnd.nextS (z := Str.ofString "names") (by decide) rfl (by assumption) (by assumption) ⟨us ++ ws, _, rfl, ?_, (by rw [List.length_append]; omega)⟩
    rw [take_snoc hj1, List.flatMap_append, List.flatMap_cons, List.flatMap_nil, List.append_nil, hof]
    exact hus.append' hd4
  case done =>
    rintro ov o h tk ⟨us, nn, rfl, hus, hul⟩ F₁ N₁
    (try dsimp only at N₁)
    focus
      iterate 3 ((try dsimp only); walk1)
      (k_unfold; (try dsimp only))
    refine names_end (by assumption) (by assumption) (by k_search 3) ?_
    have := ‹IntsAre _ _›.length
    unfold namesOf
    rwa [List.take_of_length_le (by rw [List.length_reverse, List.length_reverse, this, List.length_map]; exact Nat.le_refl _)] at hus
end
set_option maxHeartbeats 1000000

noncomputable def ProfR (w : World) (R : Addr → Obj → Prop) (vs : List Value) (ks : List (Addr × TF)) : Prop :=
  vs.length = ks.length ∧ ∀ (i : Nat) (q : Addr × TF), ks[i]? = some q → ∃ a t n, vs[i]? = some (.ref a) ∧ R a (tupOb [.str (Str.ofString "in") t, .ref q.1] n) ∧ TyH w R q.1 q.2
theorem ProfR.mono {w : World} {R R' : Addr → Obj → Prop} {vs : List Value} {ks : List (Addr × TF)} (h : ProfR w R vs ks) (k : ∀ a o, R a o → R' a o) : ProfR w R' vs ks :=
  ⟨h.1, fun i q e => let ⟨a, t, n, h1, h2, h3⟩ := h.2 i q e; ⟨a, t, n, h1, k _ _ h2, h3.mono k⟩⟩
noncomputable def pickK (P : TF) (kind : Addr) (q : Addr × TF) : Addr := if q.2.num = P.num then kind else q.1
noncomputable def PickR (R : Addr → Obj → Prop) (P : TF) (kind : Addr) (ks : List (Addr × TF)) (fs : List Value) : Prop :=
  fs.length = ks.length ∧ ∀ (i : Nat) (q : Addr × TF), ks[i]? = some q → ∃ a t n, fs[i]? = some (.ref a) ∧ R a (tupOb [.str (Str.ofString "in") t, .ref (pickK P kind q)] n)
theorem PickR.nil {R : Addr → Obj → Prop} {P : TF} {kind : Addr} : PickR R P kind [] [] := ⟨rfl, fun i q e => by simp at e⟩
theorem PickR.mono {R R' : Addr → Obj → Prop} {P : TF} {kind : Addr} {ks : List (Addr × TF)} {fs : List Value} (h : PickR R P kind ks fs) (k : ∀ a o, R a o → R' a o) : PickR R' P kind ks fs :=
  ⟨h.1, fun i q e => let ⟨a, t, n, h1, h2⟩ := h.2 i q e; ⟨a, t, n, h1, k _ _ h2⟩⟩
theorem PickR.snoc {R : Addr → Obj → Prop} {P : TF} {kind : Addr} {ks : List (Addr × TF)} {fs : List Value} {q : Addr × TF} {a : Addr} {t : Tok} {n : Nat} (h : PickR R P kind ks fs) (k : R a (tupOb [.str (Str.ofString "in") t, .ref (pickK P kind q)] n)) : PickR R P kind (ks ++ [q]) (fs ++ [.ref a]) := by
  refine ⟨by simp [h.1], fun i x ex => ?_⟩
  by_cases hi : i < ks.length
  · rw [List.getElem?_append_left hi] at ex
    rw [List.getElem?_append_left (h.1 ▸ hi)]
    exact h.2 i x ex
  · have hi' : ks.length ≤ i := Nat.le_of_not_lt hi
    rw [List.getElem?_append_right hi'] at ex
    rw [List.getElem?_append_right (h.1 ▸ hi'), h.1]
    cases hq : i - ks.length with
    | zero => rw [hq] at ex; simp at ex; subst ex; exact ⟨a, t, n, rfl, k⟩
    | succ i => rw [hq] at ex; simp at ex
theorem map_two {x z : PySem.Str} {a b c d : Option Value} {m : FMap} : (fun y => if y = x then a else if y = z then b else if y = x then c else if y = z then d else m y) = (fun y => if y = x then a else if y = z then b else m y) := by
  funext y
  by_cases h : y = x <;> by_cases k : y = z <;> simp [h, k]
theorem map_two0 {x z : PySem.Str} {m : FMap} (hx : x ≠ z) : m = (fun y => if y = x then m x else if y = z then m z else m y) := by
  funext y
  by_cases h : y = x
  · simp [h]
  · by_cases k : y = z
    · subst k; simp [h]
    · simp [h, k]
theorem prof_perm {h₀ h : Heap} {L : Addr} {a b c : Addr × Obj} {tl : List (Addr × Obj)} (N : News h₀ L h (a :: b :: c :: tl)) : News h₀ L h (c :: a :: b :: tl) := fun p hp => by
  rcases List.mem_cons.mp hp with rfl | hp
  · exact N _ (.tail _ (.tail _ (.head _)))
  rcases List.mem_cons.mp hp with rfl | hp
  · exact N _ (.head _)
  rcases List.mem_cons.mp hp with rfl | hp
  · exact N _ (.tail _ (.head _))
  · exact N _ (.tail _ (.tail _ (.tail _ hp)))
theorem prof_perm2 {h₀ h : Heap} {L : Addr} {a b c : Addr × Obj} {tl : List (Addr × Obj)} (N : News h₀ L h (a :: b :: c :: tl)) : News h₀ L h (c :: a :: b :: tl) := prof_perm N
theorem prof_off {D I F : Addr} {tup oI : Obj} {tl : List (Addr × Obj)} (hap : ∀ p ∈ tl, @Ne Nat p.1 F) (hI : @Ne Nat F I) (hD : @LT.lt Nat _ F D) : ∀ p ∈ (D, tup) :: (I, oI) :: tl, @Ne Nat p.1 F := fun p hp => by
  rcases List.mem_cons.mp hp with rfl | hp
  · exact Nat.ne_of_gt hD
  rcases List.mem_cons.mp hp with rfl | hp
  · exact Ne.symm hI
  · exact hap p hp
noncomputable def PrfPost (P : TF) (kind : Addr) (ks : List (Addr × TF)) (rq : Addr × TF) (r : Value) (_upd new : List (Addr × Obj)) : Prop :=
  ∃ t F n n2 fs tl, r = .ref t ∧ new = (t, tupOb [.ref F, .ref (pickK P kind rq)] n2) :: (F, listOf fs.toArray n) :: tl ∧ PickR (InL tl) P kind ks fs
section

theorem profile_spec (w : World) (mean mg mb) (pf rl p kind : Addr) (vs : List Value) (n1 n2 : Nat) (ks : List (Addr × TF)) (P : TF) (rq : Addr × TF) (hn : ∀ q ∈ ks, q.2.numbered) (hP0 : P.numbered) (hr0 : rq.2.numbered) (hz : ks.length ≤ 100) :
    Spec w mean mg mb 185 [.ref pf, .ref p, .ref kind] 50 4000 [] (fun h => At h pf (tupOb [.ref rl, .ref rq.1] n1) ∧ At h rl (listOf vs.toArray n2) ∧ ProfR w (At h) vs ks ∧ TyH w (At h) p P ∧ TyH w (At h) rq.1 rq.2) (PrfPost P kind ks rq) := by
  refine spec_enter [(Str.ofString "profile", .ref pf), (Str.ofString "parent", .ref p), (Str.ofString "kind", .ref kind)] (by k_is) (by k_is) (fun _ => BindsTo.of_eq rfl) (locs rfl) rfl rfl rfl (by decide) ?_
  intro dp un gd env outer base g L' h₁ s tk₀ hd hu hP G F N B X Tp
  have G' : ∀ a o, At s.heap a o → At g a o := fun a o e => G a o e (by simp)
  have hp1 := G' _ _ hP.1
  have hp2 := G' _ _ hP.2.1
  have hPr := hP.2.2.1.mono G'
  have hTP := hP.2.2.2.1.mono G'
  have hTR := hP.2.2.2.2.mono G'
  have hrl : g.IsList rl vs.toArray := isListOf hp2
  refine byNo fun hno => ?_
  obtain ⟨tp, eP⟩ := TF.num_eq hP0
  obtain ⟨tr, eR⟩ := TF.num_eq hr0
  refine hno ?_
  clear hno
  clear hP
  refine byNo fun hno => ?_
  obtain ⟨rx, RT⟩ := rq
  refine hno ?_
  clear hno
  dsimp only at *
  k_with_none
  (try k_unmd); (try dsimp only); (try k_fold)
  focus
    iterate 3 ((try dsimp only); walk1)
    ((try dsimp only); refine unpackN_ (by assumption) (by assumption) (by first | exact ⟨_, Fr.keep (by assumption) _ _ (by assumption), rfl, _, rfl⟩ | exact ⟨_, News.get (by assumption) (by k_search 3), rfl, _, rfl⟩) rfl rfl rfl ?_; (intro _ _ _))
    ((try dsimp only); walk1)
    ((try dsimp only); refine wpAny_assign_Name ?_)
    iterate 2 ((try dsimp only); walk1)
    ((try dsimp only); refine wpAny_assign_Name ?_)
    iterate 10 ((try dsimp only); walk1)
    ((try dsimp only); refine For_of ?_)
    ((try dsimp only); walk1)
  all_goals (try dsimp only)
  rename_i lF hh1 l1 hh2 F2 N2
  refine' iter_L (vs := vs) (fun i m₁ news₁ => ∃ ov1 ov2 fs n tl, m₁ = (fun y => if y = Str.ofString "one" then ov1 else if y = Str.ofString "mode" then ov2 else if y = Str.ofString "found" then some (Value.ref lF)
  else
    if y = Str.ofString "result" then some (Value.ref rx)
    else
      if y = Str.ofString "rows" then some (Value.ref rl)
      else List.lookup y [(Str.ofString "profile", Value.ref pf), (Str.ofString "parent", Value.ref p), (Str.ofString "kind", Value.ref kind)].reverse) ∧ news₁ = (lF, listOf fs.toArray n) :: tl ∧ (∀ p ∈ tl, @Ne Nat p.1 lF) ∧ PickR (InL tl) P kind (ks.take i) fs) rfl F2 N2 (.inl hrl) ?h0 ?turn ?done
  case h0 => exact ⟨_, _, [], _, [], map_two0 (by decide), rfl, (fun p hp => by cases hp), PickR.nil⟩
  case turn =>
    rintro i v m₁ news₁ h tk I oI hv ⟨ov1, ov2, fs, n, tl, rfl, rfl, hap, hpk⟩ hS F₁ N₁ off
    clear F2 N2
    have hi : i < ks.length := by
      rcases Nat.lt_or_ge i ks.length with z | z
      · exact z
      · rw [List.getElem?_eq_none (hPr.1 ▸ z)] at hv; cases hv
    have hq := List.getElem?_eq_getElem hi
    refine byNo fun hno => ?_
    obtain ⟨a, t, n3, e1, ha, hT⟩ := hPr.2 i _ hq
    refine hno ?_
    clear hno
    rw [e1] at hv
    obtain rfl := Option.some.inj hv
    have hnu := hn _ (List.mem_of_getElem? hq)
    have htk := take_snoc hq
    generalize ks[i] = q at hq ha hT hnu htk
    refine byNo fun hno => ?_
    obtain ⟨x, T⟩ := q
    obtain ⟨t1, eT⟩ := TF.num_eq hnu
    refine hno ?_
    clear hno
    dsimp only at eT ha hT
    have hIF : @Ne Nat lF I := off _ (.head _)
    have hfl : fs.length ≤ 100 := by rw [hpk.1, List.length_take]; omega
    focus
      focus ((try dsimp only); refine unpackN_ (by assumption) (by assumption) (by first | exact ⟨_, Fr.keep (by assumption) _ _ (by assumption), rfl, _, rfl⟩ | exact ⟨_, News.get (by assumption) (by k_search 3), rfl, _, rfl⟩) rfl rfl rfl ?_; (intro _ _ _))
      focus ((try dsimp only); walk1)
      focus ((try dsimp only); refine wpAny_assign_Name ?_)
      focus (iterate 2 ((try dsimp only); walk1))
      focus ((try dsimp only); refine wpAny_assign_Name ?_)
      focus (iterate 18 ((try dsimp only); walk1))
      focus ((try dsimp only); first | refine tyE_number (by assumption) (by assumption) (TyH.mono (by assumption) (fun a o e => Fr.keep (by assumption) a o e)) (by assumption) ?_ | refine tyg_number (by assumption) (by assumption) (TyH.mono (by assumption) (fun a o e => Fr.keep (by assumption) a o e)) ?_)
      focus (iterate 2 ((try dsimp only); walk1))
      focus ((try dsimp only); first | refine tyE_number (by assumption) (by assumption) (TyH.mono (by assumption) (fun a o e => Fr.keep (by assumption) a o e)) (by assumption) ?_ | refine tyg_number (by assumption) (by assumption) (TyH.mono (by assumption) (fun a o e => Fr.keep (by assumption) a o e)) ?_)
      focus (iterate 7 ((try dsimp only); walk1))
      rotate_left
      focus (iterate 4 ((try dsimp only); walk1))
      rotate_left
    all_goals (try dsimp only)
    · rename_i hc D' h2 F2 N2 l2
      have N3 := prof_perm N2
      refine append_L (D := lF) (vs := fs) F2 N3 (UpdF.head (prof_off hap hIF l2.2.1)) (by rw [sizeLine_eq]; omega) ?_
      intro h3 n3 F3 N4
      focus
        iterate 2 ((try dsimp only); walk1)
      refine ⟨_, _, _, (lF, listOf (fs ++ [Value.ref D']).toArray n3) :: (D', tupOb [Value.str (Str.ofString "in") t, Value.ref kind] 0) :: tl, rfl, map_two ▸ F3, prof_perm2 N4, ?_, .inl hrl, _, _, _, _, _, rfl, rfl, ?_, ?_⟩
      · intro p hp
        rcases List.mem_cons.mp hp with rfl | hp
        · exact hIF
        rcases List.mem_cons.mp hp with rfl | hp
        · exact (Nat.ne_of_gt l2.1)
        · exact off p (.tail _ hp)
      · intro p hp
        rcases List.mem_cons.mp hp with rfl | hp
        · exact (Nat.ne_of_gt l2.2.1)
        · exact hap p hp
      · rw [htk]
        refine PickR.snoc (hpk.mono fun a o e => List.mem_cons_of_mem _ e) (t := t) (n := 0) ?_
        unfold pickK
        first | (rw [if_pos hc]; exact List.Mem.head _) | (rw [if_neg hc]; exact List.Mem.head _)
    · rename_i hc D' h2 F2 N2 l2
      have N3 := prof_perm N2
      refine append_L (D := lF) (vs := fs) F2 N3 (UpdF.head (prof_off hap hIF l2.2.1)) (by rw [sizeLine_eq]; omega) ?_
      intro h3 n3 F3 N4
      focus
        iterate 2 ((try dsimp only); walk1)
      refine ⟨_, _, _, (lF, listOf (fs ++ [Value.ref D']).toArray n3) :: (D', tupOb [Value.str (Str.ofString "in") t, Value.ref x] 0) :: tl, rfl, map_two ▸ F3, prof_perm2 N4, ?_, .inl hrl, _, _, _, _, _, rfl, rfl, ?_, ?_⟩
      · intro p hp
        rcases List.mem_cons.mp hp with rfl | hp
        · exact hIF
        rcases List.mem_cons.mp hp with rfl | hp
        · exact (Nat.ne_of_gt l2.1)
        · exact off p (.tail _ hp)
      · intro p hp
        rcases List.mem_cons.mp hp with rfl | hp
        · exact (Nat.ne_of_gt l2.2.1)
        · exact hap p hp
      · rw [htk]
        refine PickR.snoc (hpk.mono fun a o e => List.mem_cons_of_mem _ e) (t := t) (n := 0) ?_
        unfold pickK
        first | (rw [if_pos hc]; exact List.Mem.head _) | (rw [if_neg hc]; exact List.Mem.head _)
  case done =>
    rintro m₁ news₁ h tk ⟨ov1, ov2, fs, n, tl, rfl, rfl, hap, hpk⟩ F₁ N₁
    clear F2 N2
    focus
      focus (iterate 13 ((try dsimp only); walk1))
      focus ((try dsimp only); first | refine tyE_number (by assumption) (by assumption) (TyH.mono (by assumption) (fun a o e => Fr.keep (by assumption) a o e)) (by assumption) ?_ | refine tyg_number (by assumption) (by assumption) (TyH.mono (by assumption) (fun a o e => Fr.keep (by assumption) a o e)) ?_)
      focus (iterate 2 ((try dsimp only); walk1))
      focus ((try dsimp only); first | refine tyE_number (by assumption) (by assumption) (TyH.mono (by assumption) (fun a o e => Fr.keep (by assumption) a o e)) (by assumption) ?_ | refine tyg_number (by assumption) (by assumption) (TyH.mono (by assumption) (fun a o e => Fr.keep (by assumption) a o e)) ?_)
      focus (iterate 21 ((try dsimp only); walk1))
      rotate_left
      focus (iterate 12 ((try dsimp only); walk1))
      rotate_left
    all_goals (try dsimp only)
    all_goals rename_i hc D' h2 F2 N2 l2
    all_goals rw [hPr.1, List.take_length] at hpk
    · have hpc : pickK P kind (rx, RT) = kind := if_pos (by assumption)
      exact Done.new _ F2 N2 ⟨D', lF, n, 0, fs, tl, rfl, by rw [hpc], hpk⟩
    · have hpc : pickK P kind (rx, RT) = rx := if_neg (by assumption)
      exact Done.new _ F2 N2 ⟨D', lF, n, 0, fs, tl, rfl, by rw [hpc], hpk⟩
end
section
open PySem PySem.W PyProof.Rows PySem.Calls PySem.SeqAt PySem.Spec PyProof.Rows.LCg
set_option maxRecDepth 100000
set_option maxHeartbeats 1000000
theorem is_strK {prog : Program} {w : World} {k : PySem.Str} {v : Value} (h : (PySem.strKind prog w).is k v = true) : ∃ t, v = .str k t := Value.isStrOf_shape h
theorem stored_end {kvs : List (PySem.Str × Value)} {x : PySem.Str} {v : Value} (h : x ∉ kvs.map (·.1)) : stored kvs x v = kvs ++ [(x, v)] := by
  unfold stored
  rw [if_neg]
  rw [List.any_eq_true]
  rintro ⟨p, hp, e⟩
  have : p.1 = x := by simpa using e
  exact h (this ▸ List.mem_map_of_mem hp)
theorem storedAll_map {val : PySem.Str → Value} {FK : Value → PySem.Str → Prop} {FV : Value → Value → Prop} (hk : ∀ v k, FK v k → ∃ t, v = .str k t) (hv : ∀ k t y, FV (.str k t) y → y = val k) {l : List Value} {kvs : List (PySem.Str × Value)} (h : StoredAll FK FV l kvs) :
    ∀ xs, StrsAre l xs → xs.Nodup → kvs = xs.map fun k => (k, val k) := by
  induction h with
  | nil => intro xs hs _; cases hs; rfl
  | @snoc l kvs v k y _ h1 h2 ih =>
    intro xs hs hn
    obtain ⟨t, rfl⟩ := hk _ _ h1
    have hlen := hs.length
    rcases List.eq_nil_or_concat xs with rfl | ⟨ys, z, rfl⟩
    · simp at hlen
    rw [List.concat_eq_append] at hs hn hlen ⊢
    have hl2 : l.length = ys.length := by simp at hlen; exact hlen
    have h3 := (hs.take' l.length)
    rw [List.take_left', hl2, List.take_left'] at h3
    · have h4 := (hs.drop' l.length)
      rw [List.drop_left', hl2, List.drop_left'] at h4
      · cases h4
        rw [List.nodup_append] at hn
        have e := ih ys h3 hn.1
        have hz : k ∉ kvs.map (·.1) := by
          rw [e, List.map_map]
          have : ((fun p : PySem.Str × Value => p.1) ∘ fun k => (k, val k)) = id := rfl
          rw [this, List.map_id]
          intro hm
          exact hn.2.2 k hm k (by simp) rfl
        rw [stored_end hz, e, hv k t y h2, List.map_append]; rfl
      · rfl
      · rfl
    · rfl
    · rfl
theorem strs_filter {l : List Value} {xs : List PySem.Str} {p : Value → Bool} {pf : PySem.Str → Bool} (hp : ∀ k t, p (.str k t) = pf k) (h : StrsAre l xs) : StrsAre (l.filter p) (xs.filter pf) := by
  induction h with
  | nil => exact .nil
  | cons y t _ ih =>
    rw [List.filter_cons, List.filter_cons, hp]
    cases pf y with
    | true => exact .cons y t ih
    | false => exact ih
theorem strs_of_keys {prog : Program} {w : World} {kvs : List (PySem.Str × Value)} {vs : List Value} (hl : vs.length = kvs.length) (h : ∀ (j : Nat) (v : Value), vs[j]? = some v → ∃ k x, kvs[j]? = some (k, x) ∧ (PySem.strKind prog w).is k v = true) : StrsAre vs (kvs.map (·.1)) := by
  induction vs generalizing kvs with
  | nil => rw [List.length_eq_zero_iff.mp hl.symm]; exact .nil
  | cons v r ih =>
    cases kvs with
    | nil => cases hl
    | cons p q =>
      obtain ⟨k, x, e, hk⟩ := h 0 v rfl
      obtain ⟨t, rfl⟩ := is_strK hk
      have e' : p = (k, x) := by simpa using e
      subst e'
      exact .cons k t (ih (by simpa using hl) fun j v hj => h (j + 1) v hj)
section
variable {prog : Program} {w : World} {A : Around} {E : Value → Shared → Prop} {s : Shared} {h₀ : Heap} {L d : Addr} {m : FMap} {env : Env} {news : List (Addr × Obj)} {Q : Value → Shared → Prop}
noncomputable abbrev pfV (pf : PySem.Str → Bool) (v : Value) : Bool := match v with | .str k _ => pf k | _ => false
theorem tests_one {c : PySem.Expr} {cenv : Env} {Q : Bool → Shared → Prop} (h : wpAny (model prog w) A (isTrue c cenv (eval c cenv)) Q E s) :
    wpAny (model prog w) A (forIn [c] true fun c r => if r = true then do let ok ← isTrue c cenv (eval c cenv); pure (ForInStep.yield ok) else pure (ForInStep.yield r)) Q E s := by
  rw [List.forIn_cons]
  simp only [if_true]
  refine wpAny_bind (wpAny_bind (wpAny_mono h (fun b s' hb => ?_) fun _ _ e => e))
  refine wpAny_pure ?_
  dsimp only
  rw [List.forIn_nil]
  exact wpAny_pure hb
theorem dict_block {kx vx target iter : PySem.Expr} {ifs : List PySem.Expr} {scope : Scope} {cl : List (PySem.Str × Addr)} {pos : Pos} {it : Value} {s₂ : Shared} {RR : Value → Addr → Result → Shared → Prop}
    (hcell : ∀ y ∈ scope.names, y.2 ≠ .cell) (hkind : scope.kind = .function)
    (loop : ∀ (h₁ : Heap) (tk : Nat) (m₁ : FMap), h₁.Ns (s₂.heap.objs.size + 1) m₁ → h₁.DictOf (PySem.strKind prog w) s₂.heap.objs.size [] → (∀ b o, s₂.heap.get? b = some o → h₁.get? b = some o) →
      (∀ (Q : Value → Shared → Prop) (E : Value → Shared → Prop), Q it { s₂ with heap := h₁, toks := tk } → wpAny (model prog w) A (pyIter it) Q E { s₂ with heap := h₁, toks := tk }) ∧
      codeAny (model prog w) A (.compLoop (.DictComp kx vx [⟨target, iter, ifs, 0⟩] scope pos) 0 it (.ref s₂.heap.objs.size) (compEnvC scope cl (s₂.heap.objs.size + 1) env)) (RR (.ref s₂.heap.objs.size) (s₂.heap.objs.size + 1)) { s₂ with heap := h₁, toks := tk }) :
    wpAny (model prog w) A newDict (fun acc s₃ => wpAny (model prog w) A (newFunctionEnv scope env.globals cl [] env.qual none .none (some env)) (fun cenv s₄ =>
      codeAny (model prog w) A (.compStart (.DictComp kx vx [⟨target, iter, ifs, 0⟩] scope pos) 0 it acc { cenv with scope := relabel scope env }) (RR acc cenv.locals) s₄) E s₃) E s₂ := by
  refine wpAny_newObj_type (wpAny_newFunctionEnv hcell (by intro y hy; simp at hy) (fun h₁ hns₁ hsb₁ => ?_) hkind)
  dsimp only at hns₁ hsb₁ ⊢
  rw [Heap.size_push] at hns₁ hsb₁
  rw [Heap.size_push]
  have hne : ∀ b o, s₂.heap.get? b = some o → b ≠ s₂.heap.objs.size + 1 := fun b o e => Nat.ne_of_lt (Nat.lt_succ_of_lt (Heap.lt_size e))
  have old : ∀ b o, s₂.heap.get? b = some o → h₁.get? b = some o := fun b o e => hsb₁.extBut b o (hne b o e) (Heap.get?_push_of_some _ (Heap.get?_push_of_some _ e))
  have hnew : h₁.DictOf (PySem.strKind prog w) s₂.heap.objs.size [] := (Heap.DictOf.new s₂.heap).at fun o e => hsb₁.extBut _ _ (Nat.ne_of_lt (Nat.lt_succ_self _)) (Heap.get?_push_of_some _ e)
  have L := loop h₁ (s₂.toks + ([] : List (PySem.Str × Value)).length) _ hns₁ hnew old
  exact codeAny_compStart_dict L.2 (L.1 _ _ L.2)
noncomputable def DcSrc (prog : Program) (w : World) (A : Around) (h₀ : Heap) (L : Addr) (m : FMap) (env : Env) (x : PySem.Str) (c vx : PySem.Expr) (scope : Scope) (cl : List (PySem.Str × Addr)) (pf : PySem.Str → Bool) (val : PySem.Str → Value) (Q : Value → Shared → Prop) (xv : Value) (s₁ : Shared) : Prop :=
  ∃ (d : Addr) (kvs : List (PySem.Str × Value)) (news : List (Addr × Obj)), xv = .ref d ∧ Fr h₀ L s₁.heap m ∧ News h₀ L s₁.heap news ∧ s₁.heap.DictOf (PySem.strKind prog w) d kvs ∧ (d == sysModules) = false ∧ kvs.length ≤ 10000 ∧
    (∀ C k t s₃ m₃ E', k ∈ kvs.map (·.1) → s₃.heap.Ns C m₃ → m₃ x = some (.str k t) → (∀ b o, s₁.heap.get? b = some o → s₃.heap.get? b = some o) →
      wpAny (model prog w) A (isTrue c (compEnvC scope cl C env) (eval c (compEnvC scope cl C env))) (fun ok s₄ => ok = pf k ∧ Keeps s₃ s₄) E' s₃) ∧
    (∀ C k t s₃ m₃ E', k ∈ kvs.map (·.1) → s₃.heap.Ns C m₃ → m₃ x = some (.str k t) → (∀ b o, s₁.heap.get? b = some o → s₃.heap.get? b = some o) →
      wpAny (model prog w) A (eval vx (compEnvC scope cl C env)) (fun y s₄ => y = val k ∧ Keeps s₃ s₄) E' s₃) ∧
    (∀ D oD h' tk, Fr h₀ L h' m → News h₀ L h' ((D, oD) :: news) → Off1 D news → (D == sysModules) = false → oD.IsDictOf (PySem.strKind prog w) (((kvs.map (·.1)).filter pf).map fun k => (k, val k)) → Q (.ref D) { s₁ with heap := h', toks := tk })
theorem fresh_led {hp h' : Heap} {D : Addr} {oD : Obj} (F : Fr h₀ L hp m) (N : News h₀ L hp news) (kk : ∀ b o, hp.get? b = some o → h'.get? b = some o) (hD : hp.objs.size ≤ D) (ho : h'.get? D = some oD) : Fr h₀ L h' m ∧ News h₀ L h' ((D, oD) :: news) ∧ Off1 D news := by
  have hf1 : hp.get? D = none := by
    cases q : hp.get? D with
    | none => rfl
    | some o => exact absurd (Heap.lt_size q) (Nat.not_lt.mpr hD)
  refine ⟨frAfter F kk, fun p hp => ?_, off1_of fun p hp q => ?_⟩
  · rcases List.mem_cons.mp hp with rfl | hp
    · refine ⟨ho, fun q => ?_, ?_⟩
      · obtain ⟨oL, _, _, hL, _⟩ := F.ns
        dsimp only at q
        rw [q, hL] at hf1; cases hf1
      · cases q : h₀.get? D with
        | none => rfl
        | some o => rw [F.keep _ _ q] at hf1; cases hf1
    · exact N.grown kk p hp
  · have := (N p hp).1
    rw [q, hf1] at this; cases this
theorem dictcomp_keys {iter c vx : PySem.Expr} {x : PySem.Str} {p1 px pos : Pos} {scope : Scope} {cl : List (PySem.Str × Addr)} (pf : PySem.Str → Bool) (val : PySem.Str → Value) (F₀ : Fr h₀ L s.heap m) (hbig : sysModules < h₀.objs.size) (hh : A.handled = none)
    (hclos : closureFor scope env = pure cl) (hcell : ∀ y ∈ scope.names, y.2 ≠ .cell) (hkind : scope.kind = .function)
    (hnames : ∀ y ∈ scope.names, y.2 = .local → scope.names.lookup y.1 = some .local) (hx : scope.names.lookup x = some .local) (hd : (x == ("__debug__" : Str)) = false)
    (h : wpAny (model prog w) A (eval iter env) (DcSrc prog w A h₀ L m env x c vx scope cl pf val Q) E s)
    (hs : ∀ x, foldedSetIterable iter env x = pure x := by intro _; rfl) :
    wpAny (model prog w) A (eval (.DictComp (.Name x p1) vx [⟨.Name x px, iter, [c], 0⟩] scope pos) env) Q E s := by
  have _ := F₀
  rw [arm_eval_DictComp]
  refine wpAny_comprehension_free (use := none) rfl hs hclos hkind hnames (wpAny_mono h (fun xv s₁ h₁ => ?_) fun _ _ z => z)
  refine byNo fun hno => ?_
  obtain ⟨d, kvs, news, rfl, F, N, hD, hsy, hz, ht, hv, ret⟩ := h₁
  obtain ⟨ep, hat⟩ := hD.dictAt
  refine hno ?_
  clear hno
  have hlt : d < s₁.heap.objs.size := hat.lt_size
  have hnd := hat.nodup
  refine wpAny_pyIter_dict hsy hat ?_
  generalize ei : ({ cls := .type "dict_keyiterator", data := .fields #[.ref d, .int 0 0, .int kvs.length 0, .int ep 0] } : Obj) = oi
  have up : ∀ b o, s₁.heap.get? b = some o → (s₁.heap.push oi).get? b = some o := fun b o e => Heap.get?_push_of_some _ e
  refine dict_block (RR := fun acc C => compPost (model prog w) A E none Q acc C) hcell hkind ?_
  dsimp only
  rw [Heap.size_push]
  intro h₁ tk m₁ hns hnew old
  have W := Walks.dictKeys (prog := prog) (w := w) (knd := PySem.strKind prog w) hh s₁.heap.objs.size d (Nat.ne_of_lt hlt) kvs ep
  have hst : h₁.IsKeyIter s₁.heap.objs.size d 0 kvs.length ep ∧ h₁.DictAt (PySem.strKind prog w) d kvs ep :=
    ⟨⟨_, old _ _ (Heap.get?_push_size _ (by subst ei; rfl)), by subst ei; rfl, by subst ei; rfl⟩, (hat.push oi).keep old⟩
  refine ⟨fun Q E hq => W.self 0 _ _ _ hst hq, ?_⟩
  have kk0 : ∀ b o, s₁.heap.get? b = some o → h₁.get? b = some o := fun b o e => old b o (up b o e)
  have hne : ∀ b o, s₁.heap.get? b = some o → b ≠ s₁.heap.objs.size + 1 + 1 ∧ b ∉ [s₁.heap.objs.size] ∧ b ≠ s₁.heap.objs.size + 1 := fun b o e => by
    have hb : @LT.lt Nat _ b s₁.heap.objs.size := Heap.lt_size e
    refine ⟨Nat.ne_of_lt (by omega), fun q => Nat.ne_of_lt hb (List.mem_singleton.mp q), Nat.ne_of_lt (by omega)⟩
  have hfp : ∀ a, @LT.lt Nat _ s₁.heap.objs.size a → a ∉ [s₁.heap.objs.size, d] := fun a ha q => by
    rcases List.mem_cons.mp q with q | q
    · exact Nat.lt_irrefl _ (q ▸ ha)
    · rw [List.mem_singleton.mp q] at ha; exact Nat.lt_irrefl _ (Nat.lt_trans ha hlt)
  refine codeAny_compLoop_walkD (hsz := by rw [sizeLine_eq]; omega) (knd := PySem.strKind prog w) (cenv := compEnvC scope cl (s₁.heap.objs.size + 1 + 1) env) W (pfV pf) (fun v k => ∃ t, v = .str k t) (fun v y => ∃ k t, v = .str k t ∧ y = val k)
    (lookup_relabel_local hx) (by simp [compEnvC, relabel, hkind]) (Nat.ne_of_lt (Nat.lt_succ_self _)) (hfp _ (Nat.lt_succ_self _)) (hfp _ (Nat.lt_succ_of_lt (Nat.lt_succ_self _))) hst hnew hns ?_ ?_ ?_ ?_
  · rintro i v s₃ m₃ ⟨k, y, hk, hkv⟩ hn hm hk3
    refine byNo fun hno => ?_
    obtain ⟨t, rfl⟩ := is_strK hkv
    refine hno ?_
    clear hno
    have kk : ∀ b o, s₁.heap.get? b = some o → s₃.heap.get? b = some o := fun b o e => let z := hne b o e; hk3 b o z.1 z.2.1 z.2.2 (kk0 b o e)
    exact tests_one (wpAny_mono (ht _ k t s₃ m₃ _ (List.mem_map.mpr ⟨(k, y), List.mem_of_getElem? hk, rfl⟩) hn hm kk) (fun ok s₄ h4 => h4) fun _ _ z => z)
  · rintro i v s₃ m₃ ⟨k, y, hk, hkv⟩ hp hn hm hk3
    refine byNo fun hno => ?_
    obtain ⟨t, rfl⟩ := is_strK hkv
    refine hno ?_
    clear hno
    exact wpAny_Name (wpAny_loadName_local (by simp [compEnvC, relabel, hkind]) (lookup_relabel_local hx) hn hm ⟨⟨k, hkv, t, rfl⟩, s₃.heap, s₃.toks, rfl, fun _ _ e => e⟩) hd
  · rintro i v s₃ m₃ ⟨k, y, hk, hkv⟩ hp hn hm hk3
    refine byNo fun hno => ?_
    obtain ⟨t, rfl⟩ := is_strK hkv
    refine hno ?_
    clear hno
    have kk : ∀ b o, s₁.heap.get? b = some o → s₃.heap.get? b = some o := fun b o e => let z := hne b o e; hk3 b o z.1 z.2.1 z.2.2 (kk0 b o e)
    exact wpAny_mono (hv _ k t s₃ m₃ _ (List.mem_map.mpr ⟨(k, y), List.mem_of_getElem? hk, rfl⟩) hn hm kk) (fun y s₄ h4 => ⟨⟨k, t, rfl, h4.1⟩, h4.2⟩) fun _ _ z => z
  · intro h' tk' m' kvs' vs hn' hD' hlen hP hall hk
    have hsv := strs_of_keys hlen fun j v hj => hP j v hj
    have e := storedAll_map (val := val) (fun v k hk => hk) (fun k t y hy => by obtain ⟨k', t', e1, e2⟩ := hy; injection e1 with e3; rw [e3, e2]) hall _ (strs_filter (pf := pf) (fun k t => rfl) hsv) (hnd.sublist List.filter_sublist)
    refine ⟨m', hn', fun h'' hs'' => ?_⟩
    have kk : ∀ b o, s₁.heap.get? b = some o → h''.get? b = some o := fun b o q => let z := hne b o q; hs''.extBut b o z.1 (hk b o z.1 z.2.1 z.2.2 (kk0 b o q))
    refine byNo fun hno => ?_
    obtain ⟨oD, ho, hdo⟩ := Heap.dictOf_iff.mp (hD'.extBut hs''.extBut (Nat.ne_of_lt (Nat.lt_succ_self _)))
    obtain ⟨F', N', o1⟩ := fresh_led F N kk (Nat.le_succ _) ho
    refine hno ?_
    clear hno
    have hns' : (s₁.heap.objs.size + 1 == sysModules) = false := by
      have := (F.push oi).notModules hbig
      rwa [Heap.size_push] at this
    exact ret _ oD h'' tk' F' N' o1 hns' (e ▸ hdo)
end
end
set_option maxHeartbeats 1000000

noncomputable abbrev DM (ks : List PySem.Str) (val : PySem.Str → Value) : List (PySem.Str × Value) := ks.map fun k => (k, val k)
theorem dm_keys {ks : List PySem.Str} {val : PySem.Str → Value} : (DM ks val).map (·.1) = ks := by
  unfold DM
  rw [List.map_map]
  have : ((fun p : PySem.Str × Value => p.1) ∘ fun k => (k, val k)) = id := rfl
  rw [this, List.map_id]
theorem dm_at {ks : List PySem.Str} {val : PySem.Str → Value} {k : PySem.Str} (h : k ∈ ks) : valueAt (DM ks val) k = some (val k) := by
  unfold valueAt DM
  induction ks with
  | nil => cases h
  | cons a r ih =>
    rw [List.map_cons, List.find?_cons]
    by_cases e : a = k
    · subst e; simp
    · simp only [e, decide_false]
      rcases List.mem_cons.mp h with rfl | h
      · exact absurd rfl e
      · exact ih h
theorem CompsH.mono {w : World} {R R' : Addr → Obj → Prop} {x : Addr} {T : TF} {vs : List Value} {xs : List PySem.Str} (h : CompsH w R x T vs xs) (k : ∀ a o, R a o → R' a o) : CompsH w R' x T vs xs := by
  refine byNo fun hno => ?_
  obtain ⟨h1, c, n, h2, h3, h4⟩ := h
  refine hno ?_
  clear hno
  exact ⟨h1.mono k, c, n, h2, k _ _ h3, h4.mono k⟩
section
variable {w : World} {mean : ExcName → Option Value} {mg mb : PySem.Str → Option Value} {dp un : Nat} {gd : Option (List Code)} {env : Env} {outer : List Env} {A₀ : Around} {base h₀ : Heap} {L : Addr} {m : PySem.Str → Option Value} {s : Shared} {Q : Value → Shared → Prop} {E : Value → Shared → Prop} {news : List (Addr × Obj)}
theorem extnames_use {k a : Addr} {T U : TF} {vs ws : List Value} {xs ys : List PySem.Str} (B : Below A₀ base outer h₀) (F : Fr h₀ L s.heap m) (X : (hd.heap_1 w.params).In h₀) (N : News h₀ L s.heap news) (T0 : TP mean mg mb h₀)
    (hf : env.frame = some L) (hk : env.scope.kind = .function) (hd : dp + 30 < recursionLimit) (hu : un + 2000 < cLine) (h1 : CompsH w (At h₀) k T vs xs) (h2 : CompsH w (At h₀) a U ws ys) (hl : vs.length ≤ 100) (hl2 : ws.length ≤ 100)
    (ret : ∀ D n us h' tk', Fr h₀ L h' m → News h₀ L h' ((D, listOf us.toArray n) :: news) → Off1 D news → StrsAre us (xs.drop ws.length) → Q (.ref D) { s with heap := h', toks := tk' }) :
    wpAny (model PySem.Challenge.rw_pb0010_01.row.prog w) (topA dp un gd env outer) (call (.ref 166) [.ref k, .ref a]) Q E s := by
  refine Spec.use0 (extnames_spec w mean mg mb k a T U vs ws xs ys hl hl2) B F X N T0 hf hk hd hu ⟨h1.mono fun a o e => F.keep a o e, h2.mono fun a o e => F.keep a o e⟩ ?_
  rintro r new h' tk' F' N' hne - ⟨D, us, n, rfl, rfl, hi⟩
  exact ret D n us h' tk' F' N' (off1_apart hne) hi
end
noncomputable def CutPost (w : World) (ks zs : List PySem.Str) (val : PySem.Str → Value) (r : Value) (_upd new : List (Addr × Obj)) : Prop :=
  ∃ D oD, r = .ref D ∧ new = [(D, oD)] ∧ (D == sysModules) = false ∧ oD.IsDictOf (SK w) (DM (ks.filter fun k => !(zs.any (· == k))) val)
section

theorem cut_spec (w : World) (mean mg mb) (fd tag tgt : Addr) (ks : List PySem.Str) (val : PySem.Str → Value) (T U : TF) (vs ws : List Value) (xs ys : List PySem.Str) (hl : vs.length ≤ 100) (hl2 : ws.length ≤ 100) (hz : ks.length ≤ 1000) (hsy : (fd == sysModules) = false) :
    Spec w mean mg mb 204 [.ref fd, .ref tag, .ref tgt] 50 4000 [] (fun h => (∃ od, At h fd od ∧ od.IsDictOf (SK w) (DM ks val)) ∧ CompsH w (At h) tag T vs xs ∧ CompsH w (At h) tgt U ws ys) (CutPost w ks (xs.drop ws.length) val) := by
  refine spec_enterK [(Str.ofString "fields", .ref fd), (Str.ofString "tag", .ref tag), (Str.ofString "target", .ref tgt)] (by k_is) (by k_is) (fun _ => BindsTo.of_eq rfl) ?K (by decide) rfl rfl rfl ?_
  case K =>
    intro n x hx
    simp only [List.mem_cons, List.not_mem_nil, or_false] at hx
    rcases hx with rfl | rfl | rfl <;> first | exact .inl rfl | exact .inr ⟨rfl, rfl⟩
  intro dp un gd env outer base g L' h₁ s tk₀ cells hd hu hP G F N Y off0 B X Tp
  have G' : ∀ a o, At s.heap a o → At g a o := fun a o e => G a o e (by simp)
  refine byNo fun hno => ?_
  obtain ⟨⟨od, hod, hdd⟩, hc1, hc2⟩ := hP
  refine hno ?_
  clear hno
  replace hod := G' _ _ hod
  replace hc1 := hc1.mono G'
  replace hc2 := hc2.mono G'
  clear off0
  refine byNo fun hno => ?_
  obtain ⟨o1, o2, rfl, k1, k2⟩ := CellsAre.two Y
  refine hno ?_
  clear hno
  (try dsimp only [List.cons_append, List.nil_append, List.append_nil] at N)
  replace k1 : o1.data = .cell none := k1
  replace k2 : o2.data = .cell (some (.ref fd)) := k2
  clear Y
  k_with_none
  (try k_unmd); (try dsimp only); (try k_fold)
  focus
    iterate 11 ((try dsimp only); walk1)
    ((try dsimp only); refine extnames_use (by assumption) (by assumption) (by assumption) (by assumption) (by assumption) rfl rfl (by k_search 2) (by k_search 2) (by assumption) (by assumption) (by assumption) (by assumption) ?_; (intro _ _ _ _ _ _ _ _ _))
    iterate 3 ((try dsimp only); walk1)
  all_goals (try dsimp only)
  rename_i D n us hh1 tk1 off hi hh2 oN F2 N2 dN
  refine dictcomp_keys (fun k => !((xs.drop ws.length).any (· == k))) val F2 (modules_low (Top.nolimit Tp)) rfl rfl (by decide) rfl (by decide) (by decide) (by decide) ?_
  focus
    ((try dsimp only); walk1)
  refine ⟨fd, DM ks val, _, rfl, F2, N2, Heap.dictOf_iff.mpr ⟨od, F2.keep _ _ hod, hdd⟩, hsy, (by rw [List.length_map]; omega), ?t, ?v, ?r⟩
  case t =>
    intro C k t s₃ m₃ E' hk hn hm kk
    refine wpAny_isTrue_Compare1 (ldVarK hn hm ?_)
    refine ldCellK (c := L' + 1 + 1) rfl ⟨oN, kk _ _ (News.get N2 (by k_search 3)), dN⟩ ?_
    refine notin_list_strs (isListOf (kk _ _ (News.get N2 (by k_search 3)))) hi ?_
    exact wpAny_truthy_bool ⟨rfl, s₃.heap, s₃.toks, rfl, fun _ _ e => e⟩
  case v =>
    intro C k t s₃ m₃ E' hk hn hm kk
    rw [dm_keys] at hk
    refine Subscript_ (ldCellK (c := L' + 1) rfl ⟨o2, kk _ _ (News.get N2 (by k_search 3)), k2⟩ ?_)
    refine ldVarK hn hm ?_
    exact sub_dict (Heap.dictOf_iff.mpr ⟨od, kk _ _ (F2.keep _ _ hod), hdd⟩) (dm_at hk) fun tk => ⟨rfl, _, _, rfl, fun _ _ e => e⟩
  case r =>
    intro D2 oD h' tk F3 N3 off3 hsy2 hdo
    rw [dm_keys] at hdo
    refine Done.hd F3 N3 ⟨D2, oD, rfl, rfl, hsy2, hdo⟩
end
section
open PySem PySem.W PyProof.Rows PySem.Calls PySem.SeqAt PySem.Spec PyProof.Rows.LCg
set_option maxRecDepth 100000
set_option maxHeartbeats 1000000
section
variable {prog : Program} {w : World} {A : Around} {E : Value → Shared → Prop} {s : Shared} {h₀ : Heap} {L d : Addr} {m : FMap} {env : Env} {news : List (Addr × Obj)} {Q : Value → Shared → Prop}
noncomputable def EnSrc (prog : Program) (w : World) (h₀ : Heap) (L : Addr) (m : FMap) (Q : Value → Shared → Prop) (xv : Value) (s₁ : Shared) : Prop :=
  ∃ (e it l : Addr) (vs : List Value) (ks : List PySem.Str) (news : List (Addr × Obj)) (hp : Heap), xv = .ref e ∧ Fr h₀ L hp m ∧ News h₀ L hp news ∧ @LE.le Nat _ hp.objs.size s₁.heap.objs.size ∧ (∀ b o, hp.get? b = some o → s₁.heap.get? b = some o ∧ b ≠ e ∧ b ≠ it) ∧
    e ≠ it ∧ l ≠ e ∧ l ≠ it ∧ IsEnum s₁.heap e it 0 .none ∧ s₁.heap.IsListIter it l 0 ∧ s₁.heap.IsList l vs.toArray ∧ StrsAre vs ks ∧ ks.Nodup ∧ ks.length ≤ 1000 ∧
    ∀ D oD h' tk kvs, Fr h₀ L h' m → News h₀ L h' ((D, oD) :: news) → Off1 D news → (D == sysModules) = false → oD.IsDictOf (PySem.strKind prog w) kvs → kvs.map (·.1) = ks → (∀ p ∈ kvs, ∃ n t, p.2 = .int n t) → Q (.ref D) { s₁ with heap := h', toks := tk }
theorem strs_get {vs : List Value} {xs : List PySem.Str} (h : StrsAre vs xs) : ∀ (i : Nat) (v : Value), vs[i]? = some v → ∃ k t, xs[i]? = some k ∧ v = .str k t := by
  induction h with
  | nil => intro i v e; simp at e
  | cons n t _ ih =>
    intro i v e
    cases i with
    | zero => exact ⟨n, t, rfl, by simpa using e.symm⟩
    | succ i => exact ih i v (by simpa using e)
theorem nodup_new {xs : List PySem.Str} {i : Nat} {x : PySem.Str} (h : xs.Nodup) (e : xs[i]? = some x) : x ∉ xs.take i := fun hm => dup_of_mem e hm h
theorem dictcomp_enum {iter : PySem.Expr} {xi xv : PySem.Str} {c0 kk : Nat} {p1 p2 p3 p4 px1 px2 pt pos : Pos} {scope : Scope} {cl : List (PySem.Str × Addr)} (F₀ : Fr h₀ L s.heap m) (hbig : sysModules < h₀.objs.size) (hh : A.handled = none)
    (hclos : closureFor scope env = pure cl) (hcell : ∀ y ∈ scope.names, y.2 ≠ .cell) (hkind : scope.kind = .function)
    (hnames : ∀ y ∈ scope.names, y.2 = .local → scope.names.lookup y.1 = some .local) (hxi : scope.names.lookup xi = some .local) (hxv : scope.names.lookup xv = some .local) (hne : xi ≠ xv) (hdi : (xi == ("__debug__" : Str)) = false) (hdv : (xv == ("__debug__" : Str)) = false)
    (h : wpAny (model prog w) A (eval iter env) (EnSrc prog w h₀ L m Q) E s)
    (hs : ∀ x, foldedSetIterable iter env x = pure x := by intro _; rfl) :
    wpAny (model prog w) A (eval (.DictComp (.Name xv p1) (.BinOp (.Constant (.int 7) c0 p2) .Mult (.Name xi p3) p4) [⟨.Tuple [.Name xi px1, .Name xv px2] kk pt, iter, [], 0⟩] scope pos) env) Q E s := by
  have _ := F₀
  rw [arm_eval_DictComp]
  refine wpAny_comprehension_free (use := none) rfl hs hclos hkind hnames (wpAny_mono h (fun x0 s₁ h₁ => ?_) fun _ _ z => z)
  refine byNo fun hno => ?_
  obtain ⟨e, it, l, vs, ks, news, hp, rfl, F, N, hsz, hk0, hei, hle, hli, hE, hI, hL, hst, hnd, hz, ret⟩ := h₁
  refine hno ?_
  clear hno
  refine wpAny_pyIter_enum hE ?_
  refine dict_block (RR := fun acc C => compPost (model prog w) A E none Q acc C) hcell hkind ?_
  intro h₁ tk m₁ hns hnew old
  have W := WalksT.enumerate (prog := prog) (w := w) hh e it l hei hle hli vs.toArray
  have hst0 : (∃ o, IsEnum h₁ e it ((0 : Nat) : Int) o) ∧ h₁.IsListIter it l 0 ∧ h₁.IsList l vs.toArray := ⟨⟨_, old _ _ hE⟩, hI.at fun o x => old _ _ x, hL.at fun o x => old _ _ x⟩
  refine ⟨fun Q E hq => W.self 0 _ _ _ hst0 hq, ?_⟩
  have le : @LT.lt Nat _ e s₁.heap.objs.size := Heap.lt_size hE
  have lit : @LT.lt Nat _ it s₁.heap.objs.size := by obtain ⟨_, x, _⟩ := hI; exact Heap.lt_size x
  have ll : @LT.lt Nat _ l s₁.heap.objs.size := by obtain ⟨_, x, _⟩ := hL; exact Heap.lt_size x
  generalize hDe : s₁.heap.objs.size = D at *
  have hDC : D ≠ D + 1 := Nat.ne_of_lt (Nat.lt_succ_self _)
  have offb : ∀ b ∈ [e, it, l], b ≠ D ∧ b ≠ D + 1 := fun b hb => by
    have : @LT.lt Nat _ b D := by
      simp only [List.mem_cons, List.not_mem_nil, or_false] at hb
      rcases hb with rfl | rfl | rfl <;> assumption
    exact ⟨Nat.ne_of_lt this, Nat.ne_of_lt (Nat.lt_succ_of_lt this)⟩
  have hlen : vs.toArray.size = ks.length := by rw [List.size_toArray]; exact hst.length
  have hpD : ∀ b o, hp.get? b = some o → b ≠ D ∧ b ≠ D + 1 ∧ b ∉ [e, it] := fun b o q => by
    have lb : @LT.lt Nat _ b D := Nat.lt_of_lt_of_le (Heap.lt_size q) hsz
    refine ⟨Nat.ne_of_lt lb, Nat.ne_of_lt (Nat.lt_succ_of_lt lb), fun z => ?_⟩
    rcases List.mem_cons.mp z with z | z
    · exact (hk0 b o q).2.1 z
    · exact (hk0 b o q).2.2 (List.mem_singleton.mp z)
  have hCk : ∀ b, b = D ∨ b = D + 1 → b ∉ [e, it] := fun b hb z => by
    have hz : b ∈ [e, it, l] := by
      rcases List.mem_cons.mp z with z | z
      · rw [z]; exact .head _
      · rw [List.mem_singleton.mp z]; exact .tail _ (.head _)
    rcases hb with rfl | rfl
    · exact (offb _ hz).1 rfl
    · exact (offb _ hz).2 rfl
  have hki : (compEnvC scope cl (D + 1) env).kindOf xi = some .local := lookup_relabel_local hxi
  have hkv : (compEnvC scope cl (D + 1) env).kindOf xv = some .local := lookup_relabel_local hxv
  have hcc : ((compEnvC scope cl (D + 1) env).scope.kind == .class || ((compEnvC scope cl (D + 1) env).scope.kind == .module && (compEnvC scope cl (D + 1) env).locals != (compEnvC scope cl (D + 1) env).globals)) = false := by simp [compEnvC, relabel, hkind]
  have hkf : (compEnvC scope cl (D + 1) env).scope.kind = .function := by simp [compEnvC, relabel, hkind]
  refine codeAny_loop rfl (fun n s' => ∃ h' tk m' i kvs, s' = { s₁ with heap := h', toks := tk } ∧ i ≤ vs.toArray.size ∧ n = vs.toArray.size + 1 - i ∧ ((∃ o, IsEnum h' e it ((i : Nat) : Int) o) ∧ h'.IsListIter it l i ∧ h'.IsList l vs.toArray) ∧ h'.Ns (D + 1) m' ∧ h'.DictOf (PySem.strKind prog w) D kvs ∧
      kvs.map (·.1) = ks.take i ∧ (∀ p ∈ kvs, ∃ n t, p.2 = .int n t) ∧ ∀ b o, hp.get? b = some o → h'.get? b = some o) ?_ (vs.toArray.size + 1)
    ⟨h₁, tk, m₁, 0, [], rfl, Nat.zero_le _, rfl, hst0, hns, hnew, rfl, (fun p hp => by cases hp), fun b o q => old b o (hk0 b o q).1⟩
  intro n s' hq2
  refine byNo fun hno => ?_
  obtain ⟨H, tk₁, m', i, kvs, rfl, hi, rfl, hst', hns', hD', hks, hint, hkp⟩ := hq2
  refine hno ?_
  clear hno
  show wpAny _ A ((compTurn _ 0 _ (.ref D) _).onRaise _) _ _ _
  refine wpAny_noted ?_
  rw [compTurn_dict]
  refine wpAny_bind (wpAny_standAt (wpAny_bind ?_))
  by_cases hlt : i < vs.toArray.size
  · refine W.item i _ _ _ hlt hst' fun T vals h₂ tk₂ hPt hT hIT hMid hk2 => ?_
    refine byNo fun hno => ?_
    obtain ⟨t, x, hx, rfl⟩ := hPt
    obtain ⟨k, tx, hkx, rfl⟩ := strs_get hst i x (by simpa using hx)
    refine hno ?_
    clear hno
    refine wpAny_bind (W.go _ _ _ i T _ _ _ hMid fun h₃ hst3 hk3 => ?_)
    have hTw := W.apart i T _ hMid
    have hIT3 : h₃.IsTuple T #[.int (i : Int) t, .str k tx] := let ⟨o, ho, r⟩ := hIT; ⟨o, hk3 _ _ hTw ho, r⟩
    refine wpAny_bind (wpAny_assign_Tuple hh hIT3 rfl rfl fun h₄ hx₄ => ?_)
    have k34 : ∀ b o, h₃.get? b = some o → h₄.get? b = some o := fun b o q => hx₄ b o (Nat.ne_of_lt (Heap.lt_size q)) q
    have k14 : ∀ b o, b ∉ [e, it] → H.get? b = some o → h₄.get? b = some o := fun b o hb q => k34 b o (hk3 b o hb (hk2 b o hb q))
    have hns4 : h₄.Ns (D + 1) m' := hns'.at' fun o q => k14 _ o (hCk _ (.inr rfl)) q
    show wpAny _ A (do holding [.str k tx] (assign (.Name xi px1) (compEnvC scope cl (D + 1) env) (.int (i : Int) t)); do holding [] (assign (.Name xv px2) (compEnvC scope cl (D + 1) env) (.str k tx)); pure ()) _ _ _
    refine wpAny_bind (wpAny_holding (wpAny_assign_Name (wpAny_storeName_local hki hns4 (fun h₅ hns5 hs5 => ?_) hcc)))
    refine wpAny_bind (wpAny_holding (wpAny_assign_Name (wpAny_storeName_local hkv hns5 (fun h₆ hns6 hs6 => wpAny_pure ?_) hcc)))
    have k46 : ∀ b o, b ≠ D + 1 → h₄.get? b = some o → h₆.get? b = some o := fun b o hb q => hs6.extBut b o hb (hs5.extBut b o hb q)
    have hst6 := W.frame _ _ h₆ hst3 fun b hb o q => k46 b o (offb b hb).2 (k34 b o q)
    have hD6 : h₆.DictOf (PySem.strKind prog w) D kvs := hD'.at fun o q => k46 _ o hDC (k14 _ o (hCk _ (.inl rfl)) q)
    have hkp6 : ∀ b o, hp.get? b = some o → h₆.get? b = some o := fun b o q => let z := hpD b o q; k46 b o z.2.1 (k14 b o z.2.2 (hkp b o q))
    refine wpAny_bind ?_
    rw [List.forIn_nil]
    refine wpAny_pure ?_
    dsimp only
    rw [if_pos rfl]
    refine wpAny_bind (wpAny_bind (wpAny_Name (wpAny_loadName_local hkf hkv hns6 (if_pos rfl) ?_) hdv))
    refine wpAny_bind (wpAny_holding (wpAny_BinOp (wpAny_Constant_int ?_)))
    refine wpAny_Name (wpAny_loadName_local hkf hki hns6 (v := .int (i : Int) t) (by rw [if_neg hne]; exact if_pos rfl) ?_) hdi
    refine mul_int ?_ (IntMulOk.of_left (by decide))
    refine wpAny_bind (wpAny_standAt (wpAny_holding ?_))
    have hkl : kvs.length ≤ 1000 := by
      have := congrArg List.length hks
      rw [List.length_map, List.length_take] at this; omega
    refine wpAny_dictSet_pairs (hsz := by rw [sizeLine_eq]; omega) (strKind_is prog w k tx) hD6 fun h₇ hD7 hs7 => ?_
    rw [stored_end (by rw [hks]; exact nodup_new hnd hkx)] at hD7
    refine wpAny_pure ⟨rfl, vs.toArray.size + 1 - (i + 1), by omega, h₇, _, _, i + 1, _, rfl, hlt, rfl, ?_, hns6.sameBut hs7 (Ne.symm hDC), hD7, ?_, ?_, fun b o q => hs7.extBut b o (hpD b o q).1 (hkp6 b o q)⟩
    · exact W.frame _ _ h₇ hst6 fun b hb o q => hs7.extBut b o (offb b hb).1 q
    · rw [List.map_append, hks, take_snoc hkx]; rfl
    · intro p hp
      rcases List.mem_append.mp hp with hp | hp
      · exact hint p hp
      · rw [List.mem_singleton.mp hp]; exact ⟨_, _, rfl⟩
  · have hin : i = vs.toArray.size := Nat.le_antisymm hi (Nat.not_lt.mp hlt)
    subst hin
    refine W.done _ _ _ hst' fun h₂ tk₂ hk2 => ?_
    refine wpAny_pure ?_
    refine ⟨m', hns'.at' fun o q => hk2 _ o (hCk _ (.inr rfl)) q, fun h'' hs'' => ?_⟩
    refine byNo fun hno => ?_
    obtain ⟨oD, ho, hdo⟩ := Heap.dictOf_iff.mp ((hD'.at fun o q => hk2 _ o (hCk _ (.inl rfl)) q : h₂.DictOf (PySem.strKind prog w) D kvs).extBut hs''.extBut hDC)
    refine hno ?_
    clear hno
    have kk : ∀ b o, hp.get? b = some o → h''.get? b = some o := fun b o q => let z := hpD b o q; hs''.extBut b o z.2.1 (hk2 b o z.2.2 (hkp b o q))
    refine byNo fun hno => ?_
    obtain ⟨F', N', o1⟩ := fresh_led F N kk hsz ho
    refine hno ?_
    clear hno
    refine ret _ oD h'' tk₂ kvs F' N' o1 ?_ hdo (by rw [hks, hlen, List.take_length]) hint
    have h1 : @LT.lt Nat _ sysModules hp.objs.size := Nat.lt_trans hbig (Nat.lt_of_le_of_lt F.above F.ns.lt)
    exact beq_eq_false_iff_ne.mpr (Nat.ne_of_gt (Nat.lt_of_lt_of_le h1 hsz))
end
end
section
open PySem PySem.W PyProof.Rows PySem.Calls PySem.SeqAt PySem.Spec PyProof.Rows.LCg
set_option maxRecDepth 100000
set_option maxHeartbeats 2000000
noncomputable def SpecD (L : Addr) (w : World) (mean : ExcName → Option Value) (mg mb : Str → Option Value) (f : Addr) (args : List Value) (dep un₀ : Nat)
    (Pre : Heap → Prop) (Post : Value → List (Addr × Obj) → Prop) : Prop :=
  ∀ (dp un : Nat) (gd : Option (List Code)) (env : Env) (A₀ : Around) (h₀ : Heap) (m : Str → Option Value) (s : Shared) (Q E : Value → Shared → Prop),
    Below A₀ h₀ [] h₀ → Fr h₀ L s.heap m → (hd.heap_1 w.params).In h₀ → TP mean mg mb h₀ → env.frame = some L → env.scope.kind = .function →
    dp + dep < recursionLimit → un + un₀ < cLine → Pre s.heap →
    (∀ r new h' tk', Fr h₀ L h' m → (∀ b o, s.heap.get? b = some o → b ≠ L → h'.get? b = some o) → NewAt s.heap h' new → Post r new → Q r { s with heap := h', toks := tk' }) →
    wpAny (model PySem.Challenge.rw_pb0010_01.row.prog w) (topA dp un gd env []) (call (.ref f) args) Q E s
theorem spec_enterDC {L : Addr} {w : World} {mean : ExcName → Option Value} {mg mb : Str → Option Value} {f : Addr} {args : List Value} {dep un₀ : Nat}
    {Pre : Heap → Prop} {Post : Value → List (Addr × Obj) → Prop}
    {name qual : PySem.Str} {params : Arguments} {body : List Stmt} {scope : Scope} {dV kV doc pm cdv ct oc : Value} {an od : Option Addr} {osl : Array (Option Value)} (binds : List (PySem.Str × Value))
    (ho : (hd.heap_1 w.params).lookup f = some ⟨oc, od, .func (fnX name qual params body scope [] dV kV doc pm an cdv ct), osl⟩) (hcd : codeIn (hd.heap_1 w.params) cdv qual = true)
    (hbind : ∀ s, BindsTo s (fnX name qual params body scope [] dV kV doc pm an cdv ct) ⟨args, []⟩ binds)
    (hkind : ∀ n, ∀ x ∈ binds, scope.names.lookup x.1 = some .local ∨ (scope.names.lookup x.1 = some .cell ∧ ((cellsFrom n scope.names []).lookup x.1).isSome = true))
    (hnd : ((cellsFrom 0 scope.names []).map (·.1)).Nodup)
    (hco : scope.isCoroutine = false) (hgen : scope.isGenerator = false) (hk : scope.kind = .function)
    (h : ∀ (dp un : Nat) (gd : Option (List Code)) (env : Env) (h₀ g : Heap) (L' : Addr) (h₁ : Heap) (s : Shared) (tk : Nat) (cells : List (Addr × Obj)),
      dp + dep < recursionLimit → un + un₀ < cLine → Pre s.heap → GSub s.heap g [] → env.frame = some L → h₀.StaysIn g →
      Fr g L' h₁ (bindL (envOfC qual scope L' f cdv).kindOf binds fun _ => none) → News g L' h₁ cells → CellsAre (bindC (envOfC qual scope L' f cdv).kindOf binds fun _ => none) (cellsFrom (L' + 1) scope.names []) cells →
      Below (topA dp un gd env []) h₀ [env] g → (hd.heap_1 w.params).In h₀ → TP mean mg mb h₀ →
      wpAny (model PySem.Challenge.rw_pb0010_01.row.prog w) ((topA dp un gd env []).deeper (envOfC qual scope L' f cdv)) (execs body (envOfC qual scope L' f cdv))
        (fun fl s' => DoneC s h₀ L L' Post (retOf fl) s') (fun _ _ => False) { s with heap := h₁, toks := tk }) :
    SpecD L w mean mg mb f args dep un₀ Pre Post := by
  intro dp un gd env A₀ h₀ m s Q E B F X T hf hke hd hu hP ret
  refine wpAny_call ?_
  refine code_def2C B F X News.nil T rfl hf hke ho hcd (by show dp < _; omega) (hbind s) hkind hnd ?_ hco hgen hk
  intro g L' h₁ tk cells FG F' N' Y B' X' T' G' G'' _
  refine wpAny_mono (h dp un gd env h₀ g L' h₁ s _ cells hd hu hP G' hf FG.keep F' (fun p hp => N' p (by simpa using hp)) Y B' X T) ?_ (fun _ _ x => x.elim)
  exact fun fl s' D => doneC_ret D F ret
section
variable {w : World} {mean : ExcName → Option Value} {mg mb : PySem.Str → Option Value} {dp un : Nat} {gd : Option (List Code)} {env : Env} {A₀ : Around} {h₀ : Heap} {L : Addr} {m : PySem.Str → Option Value} {s : Shared} {Q : Value → Shared → Prop} {E : Value → Shared → Prop} {news : List (Addr × Obj)} {f : Addr} {args : List Value} {dep un₀ : Nat} {Pre : Heap → Prop} {Post : Value → List (Addr × Obj) → Prop}
theorem SpecD.use (S : SpecD L w mean mg mb f args dep un₀ Pre Post) (B : Below A₀ h₀ [] h₀) (F : Fr h₀ L s.heap m) (X : (hd.heap_1 w.params).In h₀) (N : News h₀ L s.heap news) (T : TP mean mg mb h₀) (hf : env.frame = some L) (hk : env.scope.kind = .function)
    (hd : dp + dep < recursionLimit) (hu : un + un₀ < cLine) (hP : Pre s.heap)
    (ret : ∀ r new h' tk', Fr h₀ L h' m → News h₀ L h' (new ++ news) → (∀ q ∈ news, ∀ p ∈ new, q.1 ≠ p.1) → Post r new → Q r { s with heap := h', toks := tk' }) :
    wpAny (model PySem.Challenge.rw_pb0010_01.row.prog w) (topA dp un gd env []) (call (.ref f) args) Q E s := by
  refine S dp un gd env A₀ h₀ m s Q E B F X T hf hk hd hu hP (fun r new h' tk' F' k Z hp => ?_)
  exact ret r new h' tk' F' (fun p hp => (List.mem_append.mp hp).elim (Z.ledger F p) (fun hp => ⟨k _ _ (N p hp).1 (N p hp).2.1, (N p hp).2⟩)) (Z.apart N) hp
end
structure TysOK (w : World) (R : Addr → Obj → Prop) (ts : List (Addr × TF)) (es : List BE) (dxs vxs : List PySem.Str) : Prop where
  len : ts.length = es.length
  small : es.length ≤ 10
  own : ∀ e ∈ es, e.own.length ≤ 10
  up : ∀ i, i < es.length → ∃ js, UpR es (i : Int) js ∧ js.length ≤ 10 ∧ (∀ j ∈ js, j < es.length)
  nodup : ∀ i js, i < es.length → UpR es (i : Int) js → (dxs ++ vxs ++ namesOf es js).Nodup
  ty : ∀ (i : Nat) (q : Addr × TF), ts[i]? = some q → TyH w R q.1 q.2 ∧ q.2.tagged = .bool true ∧ q.2.numbered
  num : ∀ (i j : Nat) (p q : Addr × TF), ts[i]? = some p → ts[j]? = some q → p.2.num = q.2.num → i = j
  discs : ∀ (i : Nat) (q : Addr × TF), ts[i]? = some q → ∃ D n dvs, q.2.discs = .ref D ∧ R D (listOf dvs.toArray n) ∧ RowsR R dvs dxs ∧ dvs.length ≤ 10
  comps : ∀ (i : Nat) (q : Addr × TF) (js : List Nat), ts[i]? = some q → UpR es (i : Int) js → ∃ c n cvs, q.2.comps = .ref c ∧ R c (listOf cvs.toArray n) ∧ RowsR R cvs (namesOf es js)
  variant : ∀ (i : Nat) (q : Addr × TF), ts[i]? = some q → VarR R q.2.variant vxs
  parent : ∀ (i : Nat) (q : Addr × TF) (e : BE), ts[i]? = some q → es[i]? = some e → (e.par = -1 ∧ q.2.parent = .none) ∨ (∃ (k : Nat) (p : Addr × TF), e.par = (k : Int) ∧ ts[k]? = some p ∧ q.2.parent = .ref p.1)
end
section
open PySem PySem.W PyProof.Rows PySem.Calls PySem.SeqAt PySem.Spec PyProof.Rows.LCg
set_option maxRecDepth 100000
set_option maxHeartbeats 2000000
theorem TysOK.mono {w : World} {R R' : Addr → Obj → Prop} {ts : List (Addr × TF)} {es : List BE} {dxs vxs : List PySem.Str} (h : TysOK w R ts es dxs vxs) (k : ∀ a o, R a o → R' a o) : TysOK w R' ts es dxs vxs where
  len := h.len
  small := h.small
  own := h.own
  up := h.up
  nodup := h.nodup
  ty := fun i q e => let z := h.ty i q e; ⟨z.1.mono k, z.2⟩
  num := h.num
  discs := fun i q e => let ⟨D, n, dvs, h1, h2, h3, h4⟩ := h.discs i q e; ⟨D, n, dvs, h1, k _ _ h2, h3.mono k, h4⟩
  comps := fun i q js e u => let ⟨c, n, cvs, h1, h2, h3⟩ := h.comps i q js e u; ⟨c, n, cvs, h1, k _ _ h2, h3.mono k⟩
  variant := fun i q e => (h.variant i q e).mono k
  parent := h.parent
noncomputable def chainOf (ts : List (Addr × TF)) (js : List Nat) : List (Addr × TF) := js.filterMap (ts[·]?)
section
variable {w : World} {R : Addr → Obj → Prop} {ts : List (Addr × TF)} {es : List BE} {dxs vxs : List PySem.Str}
theorem TysOK.get (T : TysOK w R ts es dxs vxs) {i : Nat} (h : i < es.length) : ∃ q, ts[i]? = some q := ⟨ts[i]'(T.len ▸ h), List.getElem?_eq_getElem (T.len ▸ h)⟩
theorem lt_of_get {α : Type} {l : List α} {i : Nat} {x : α} (h : l[i]? = some x) : i < l.length := by
  rcases Nat.lt_or_ge i l.length with z | z
  · exact z
  · rw [List.getElem?_eq_none z] at h; cases h
theorem TysOK.chain (T : TysOK w R ts es dxs vxs) : ∀ (js : List Nat) (p : Int) (v : Value), UpR es p js → (p = -1 → v = .none) → (∀ (k : Nat) (q : Addr × TF), p = (k : Int) → ts[k]? = some q → v = .ref q.1) → ChainR w R v (chainOf ts js)
  | [], p, v, h, h1, _ => h1 h
  | j :: r, p, v, ⟨hp, e, he, hr⟩, _, h2 => by
    obtain ⟨q, hq⟩ := T.get (lt_of_get he)
    have hv := h2 j q hp hq
    have : chainOf ts (j :: r) = q :: chainOf ts r := by unfold chainOf; rw [List.filterMap_cons, hq]
    rw [this]
    refine ⟨hv, (T.ty j q hq).1, TysOK.chain T r e.par _ hr (fun h => ?_) fun k q' hk hq' => ?_⟩
    · rcases T.parent j q e hq he with z | ⟨k, p', z, _⟩
      · exact z.2
      · omega
    · rcases T.parent j q e hq he with z | ⟨k', p', z, zq, zp⟩
      · omega
      · have : k' = k := by omega
        subst this
        rw [hq'] at zq
        rw [zp, Option.some.inj zq]
theorem TysOK.chainAt (T : TysOK w R ts es dxs vxs) {i : Nat} {q : Addr × TF} {js : List Nat} (hq : ts[i]? = some q) (hj : UpR es (i : Int) js) : ChainR w R (.ref q.1) (chainOf ts js) :=
  T.chain js i _ hj (fun h => by omega) fun k q' hk hq' => by
    have : k = i := by omega
    subst this
    rw [hq] at hq'
    rw [Option.some.inj hq']
theorem TysOK.desc (T : TysOK w R ts es dxs vxs) {j : Nat} {q : Addr × TF} {js : List Nat} (hq : ts[j]? = some q) (hl : ∀ k ∈ js, k < es.length) : isDesc (chainOf ts js) q.2 = decide (j ∈ js) := by
  induction js with
  | nil => rfl
  | cons k r ih =>
    obtain ⟨p, hp⟩ := T.get (hl k List.mem_cons_self)
    have e1 : chainOf ts (k :: r) = p :: chainOf ts r := by unfold chainOf; rw [List.filterMap_cons, hp]
    have ih' := ih fun k hk => hl k (List.mem_cons_of_mem _ hk)
    unfold isDesc at ih' ⊢
    rw [e1, List.any_cons, ih', Bool.eq_iff_iff]
    simp only [Bool.or_eq_true, beq_iff_eq, decide_eq_true_eq, List.mem_cons]
    constructor
    · rintro (h | h)
      · exact .inl (T.num k j p q hp hq h).symm
      · exact .inr h
    · rintro (h | h)
      · subst h; rw [hp] at hq; rw [Option.some.inj hq]; exact .inl rfl
      · exact .inr h
theorem TysOK.chainLen {js : List Nat} : (chainOf ts js).length ≤ js.length := List.length_filterMap_le _ _
theorem chainOf_mem {js : List Nat} {p : Addr × TF} (h : p ∈ chainOf ts js) : ∃ k : Nat, ts[k]? = some p := by
  unfold chainOf at h
  obtain ⟨k, _, hk⟩ := List.mem_filterMap.mp h
  exact ⟨k, hk⟩
theorem TysOK.chainNum (T : TysOK w R ts es dxs vxs) {js : List Nat} : ∀ p ∈ chainOf ts js, p.2.numbered := fun p hp => by
  obtain ⟨k, hk⟩ := chainOf_mem hp
  exact (T.ty k p hk).2.2
end
theorem UpR.tail {es : List BE} : ∀ {js : List Nat} {p : Int}, UpR es p js → ∀ j ∈ js, ∃ pre js', js = pre ++ js' ∧ UpR es (j : Int) js'
  | [], _, _, j, h => by cases h
  | k :: r, p, ⟨hp, e, he, hr⟩, j, h => by
    rcases List.mem_cons.mp h with rfl | h
    · exact ⟨[], j :: r, rfl, rfl, e, he, hr⟩
    · obtain ⟨pre, js', e1, u⟩ := UpR.tail hr j h
      exact ⟨k :: pre, js', by rw [e1]; rfl, u⟩
theorem namesOf_append {es : List BE} {a b : List Nat} : namesOf es (a ++ b) = namesOf es b ++ namesOf es a := by
  unfold namesOf
  rw [List.reverse_append, List.flatMap_append]
theorem names_prefix {es : List BE} {p : Int} {js js' : List Nat} {j : Nat} (h : UpR es p js) (hj : j ∈ js) (h' : UpR es (j : Int) js') : ∃ pre, namesOf es js = namesOf es js' ++ pre := by
  obtain ⟨pre, js2, rfl, u⟩ := h.tail j hj
  rw [u.unique h']
  exact ⟨_, namesOf_append⟩
theorem names_len {es : List BE} {js : List Nat} (h : ∀ e ∈ es, e.own.length ≤ 10) : (namesOf es js).length ≤ 10 * js.length := by
  unfold namesOf
  rw [List.length_flatMap]
  have : ∀ l : List Nat, (l.map fun j => (ownOf es j).length).sum ≤ 10 * l.length := fun l => by
    induction l with
    | nil => simp
    | cons a r ih =>
      rw [List.map_cons, List.sum_cons, List.length_cons]
      have : (ownOf es a).length ≤ 10 := by
        unfold ownOf
        split
        · exact h _ (List.mem_of_getElem? ‹_›)
        · simp
      omega
  have := this js.reverse
  rw [List.length_reverse] at this
  exact this
theorem cut_same {fs ns pre : List PySem.Str} (h : (fs ++ (ns ++ pre)).Nodup) : ((fs ++ (ns ++ pre)).filter fun k => !(((ns ++ pre).drop ns.length).any (· == k))) = (fs ++ (ns ++ pre)).filter fun k => (fs ++ ns).any (· == k) := by
  rw [List.drop_left]
  apply List.filter_congr
  intro k hk
  rw [Bool.eq_iff_iff]
  simp only [Bool.not_eq_true', List.any_eq_false, beq_iff_eq, List.any_eq_true]
  constructor
  · intro h1
    rcases List.mem_append.mp hk with z | z
    · exact ⟨k, List.mem_append_left _ z, rfl⟩
    · rcases List.mem_append.mp z with z | z
      · exact ⟨k, List.mem_append_right _ z, rfl⟩
      · exact absurd rfl (h1 k z)
  · rintro ⟨x, hx, rfl⟩ y hy rfl
    rw [← List.append_assoc, List.nodup_append] at h
    exact h.2.2 _ hx _ hy rfl
end
section
open PySem PySem.W PyProof.Rows PySem.Calls PySem.SeqAt PySem.Spec PyProof.Rows.LCg
set_option maxRecDepth 100000
set_option maxHeartbeats 1000000
section
variable {prog : Program} {w : World} {A : Around} {E : Value → Shared → Prop} {s : Shared} {h₀ : Heap} {L l b : Addr} {m : PySem.Str → Option Value} {news : List (Addr × Obj)} {vs ws : List Value} {xs ks : List PySem.Str} {Q : Value → Shared → Prop}
theorem enum_src {n : Nat} (F : Fr h₀ L s.heap m) (N : News h₀ L s.heap news) (hl : (l, listOf vs.toArray n) ∈ news) (hst : StrsAre vs ks) (hnd : ks.Nodup) (hz : ks.length ≤ 1000)
    (ret : ∀ D oD h' tk kvs, Fr h₀ L h' m → News h₀ L h' ((D, oD) :: news) → Off1 D news → (D == sysModules) = false → oD.IsDictOf (PySem.strKind prog w) kvs → kvs.map (·.1) = ks → (∀ p ∈ kvs, ∃ n t, p.2 = .int n t) → Q (.ref D) { s with heap := h', toks := tk }) :
    wpAny (model prog w) A (call (.type "enumerate") [.ref l]) (EnSrc prog w h₀ L m Q) E s := by
  have e := (N _ hl).1
  refine call_enumerate_1 e fun h' hE hI hs k => ?_
  have lt : ∀ b o, s.heap.get? b = some o → @LT.lt Nat _ b s.heap.objs.size := fun b o e => Heap.lt_size e
  refine ⟨s.heap.objs.size + 1, s.heap.objs.size, l, vs, ks, news, s.heap, rfl, F, N, ?_, fun b o e => ⟨k b o e, Nat.ne_of_lt (Nat.lt_succ_of_lt (lt b o e)), Nat.ne_of_lt (lt b o e)⟩, Nat.succ_ne_self _, Nat.ne_of_lt (Nat.lt_succ_of_lt (lt _ _ e)), Nat.ne_of_lt (lt _ _ e), hE, hI, isListOf (k _ _ e), hst, hnd, hz, ret⟩
  show _ ≤ h'.objs.size
  rw [hs]
  exact Nat.le_add_right _ _
theorem add_push (hl : s.heap.IsList l vs.toArray) (hb : s.heap.IsList b ws.toArray) (hsz : vs.length + ws.length ≤ sizeLine)
    (h : Q (.ref s.heap.objs.size) { s with heap := s.heap.push { cls := .type "list", data := .seq (vs ++ ws).toArray } }) : wpAny (model prog w) A (binaryOp .Add (.ref l) (.ref b)) Q E s := by
  refine byNo fun hno => ?_
  obtain ⟨⟨cls, dd, data, sl⟩, ho, hc, n, hd⟩ := id hl
  obtain ⟨⟨cls2, dd2, data2, sl2⟩, ho2, hc2, n2, hd2⟩ := id hb
  refine hno ?_
  clear hno
  simp only at hc hd hc2 hd2
  subst hc hd hc2 hd2
  have e : vs.toArray ++ ws.toArray = (vs ++ ws).toArray := by simp
  refine concat_meets ⟨_, ho, rfl⟩ ⟨_, ho2, rfl⟩ noFill_list_add seq_list_add PySem.F.slot_list_add PySem.F.entry_list_add (PySem.F.args_list_add_2 _ _) (list_addW l b vs.toArray ws.toArray n n2 dd dd2 sl sl2 (by simpa using hsz)) ⟨ho, ho2, ?_⟩
  rw [e]
  exact h
theorem ne_drop {a k : Nat} (hl : s.heap.IsList l vs.toArray) (hb : s.heap.IsList b (ws.drop k).toArray) (h1 : StrsAre vs (xs.drop a)) (h2 : StrsAre ws xs) (e : a = k) (hu : A.units < cLine) (h : Q (.bool false) s) :
    wpAny (model prog w) A (compareOp .NotEq (.ref l) (.ref b)) Q E s := by
  subst e
  refine ne_strs hl hb h1 (StrsAre.drop' h2 a) hu ?_
  rw [decide_eq_true rfl]; exact h
theorem kvs_dm {kvs : List (PySem.Str × Value)} (h : (kvs.map (·.1)).Nodup) : kvs = DM (kvs.map (·.1)) fun k => (valueAt kvs k).getD .none := by
  have key : ∀ (pre rest : List (PySem.Str × Value)), ((pre ++ rest).map (·.1)).Nodup → rest = DM (rest.map (·.1)) fun k => (valueAt (pre ++ rest) k).getD .none := by
    intro pre rest
    induction rest generalizing pre with
    | nil => intro _; rfl
    | cons p r ih =>
      intro hn
      have ih' := ih (pre ++ [p]) (by simpa using hn)
      have e : pre ++ [p] ++ r = pre ++ p :: r := by simp
      rw [e] at ih'
      unfold DM at ih' ⊢
      rw [List.map_cons, List.map_cons, ← ih']
      congr 1
      have : valueAt (pre ++ p :: r) p.1 = some p.2 := by
        unfold valueAt
        rw [List.find?_append]
        have hno : List.find? (fun q => decide (q.1 = p.1)) pre = none := by
          rw [List.find?_eq_none]
          intro q hq
          simp only [decide_eq_true_eq]
          intro e
          rw [List.map_append, List.nodup_append] at hn
          exact hn.2.2 _ (List.mem_map_of_mem hq) _ (List.mem_map_of_mem (List.mem_cons_self)) e
        rw [hno]
        simp
      show p = (p.1, (valueAt (pre ++ p :: r) p.1).getD Value.none)
      rw [this]
      rfl
  exact key [] kvs h
theorem dm_int {kvs : List (PySem.Str × Value)} (hi : ∀ p ∈ kvs, ∃ n t, p.2 = .int n t) : ∀ k ∈ kvs.map (·.1), ∃ n t, (valueAt kvs k).getD .none = .int n t := by
  intro k hk
  obtain ⟨p, hp, rfl⟩ := List.mem_map.mp hk
  unfold valueAt
  cases e : kvs.find? fun q => decide (q.1 = p.1) with
  | none =>
    rw [List.find?_eq_none] at e
    exact absurd (decide_eq_true rfl) (e p hp)
  | some q =>
    obtain ⟨n, t, h⟩ := hi q (List.mem_of_find?_eq_some e)
    exact ⟨n, t, by simp [h]⟩
theorem dm_hits {val : PySem.Str → Value} {zs : List PySem.Str} (hi : ∀ k ∈ zs, ∃ n t, val k = .int n t) : ∀ l : List PySem.Str, (∀ k ∈ l, k ∈ zs) → KeqHits A s (DM zs val) (DM l val) true
  | [], _ => .nil
  | k :: r, h => by
    obtain ⟨n, t, e⟩ := hi k (h k List.mem_cons_self)
    have q : EqAt A s (val k) (val k) true := by
      rw [e]
      have := EqAt.int_int (A := A) (s := s) n t n t
      rwa [beq_self_eq_true] at this
    have := KeqHits.hit (r := DM r val) (dm_at (val := val) (h k List.mem_cons_self)) q (dm_hits hi r fun x hx => h x (List.mem_cons_of_mem _ hx))
    exact this
theorem eq_dm {a : Addr} {oa ob : Obj} {zs ys : List PySem.Str} {val : PySem.Str → Value} (ha : s.heap.get? a = some oa) (hb : s.heap.get? b = some ob) (la : (a == sysModules) = false) (lb : (b == sysModules) = false)
    (da : oa.IsDictOf (PySem.strKind prog w) (DM ys val)) (db : ob.IsDictOf (PySem.strKind prog w) (DM zs val)) (e : ys = zs) (hi : ∀ k ∈ zs, ∃ n t, val k = .int n t) (hu : A.units < cLine) (h : Q (.bool true) s) :
    wpAny (model prog w) A (compareOp .Eq (.ref a) (.ref b)) Q E s := by
  subst e
  refine keq_eq (knd := PySem.strKind prog w) la lb (Heap.dictOf_iff.mpr ⟨oa, ha, da⟩) (Heap.dictOf_iff.mpr ⟨ob, hb, db⟩) hu (fun _ => dm_hits hi ys fun _ hk => hk) ?_
  rw [beq_self_eq_true, Bool.true_and]
  exact h
end
section
variable {w : World} {mean : ExcName → Option Value} {mg mb : PySem.Str → Option Value} {dp un : Nat} {gd : Option (List Code)} {env : Env} {outer : List Env} {A₀ : Around} {base h₀ : Heap} {L : Addr} {m : PySem.Str → Option Value} {s : Shared} {Q : Value → Shared → Prop} {E : Value → Shared → Prop} {news : List (Addr × Obj)}
theorem names_use {bl : Addr} {one : Int} {t0 : Tok} {bs : List Value} {nb : Nat} {es : List BE} {js : List Nat} (B : Below A₀ base outer h₀) (F : Fr h₀ L s.heap m) (X : (hd.heap_1 w.params).In h₀) (N : News h₀ L s.heap news) (T : TP mean mg mb h₀)
    (hf : env.frame = some L) (hk : env.scope.kind = .function) (hd : dp + 60 < recursionLimit) (hu : un + 4000 < cLine) (hb : At s.heap bl (listOf bs.toArray nb)) (hE : EntsR w (At s.heap) bs es) (hj : UpR es one js) (h0 : 0 ≤ one) (hz : js.length ≤ 10) (hz2 : es.length ≤ 10) (hown : ∀ e ∈ es, e.own.length ≤ 10)
    (ret : ∀ D n vs h' tk', Fr h₀ L h' m → News h₀ L h' ((D, listOf vs.toArray n) :: news) → Off1 D news → StrsAre vs (namesOf es js) → vs.length ≤ 100 ∧ vs.length = (namesOf es js).length → Q (.ref D) { s with heap := h', toks := tk' }) :
    wpAny (model PySem.Challenge.rw_pb0010_01.row.prog w) (topA dp un gd env outer) (call (.ref 244) [.ref bl, .int one t0]) Q E s := by
  refine Spec.use0 (names_spec w mean mg mb bl bs nb es one t0 js hj h0 (by omega) (by omega) hown) B F X N T hf hk hd hu ⟨hb, hE⟩ ?_
  rintro r new h' tk' F' N' hne - ⟨D, n, vs, rfl, rfl, hi⟩
  exact ret D n vs h' tk' F' N' (off1_apart hne) hi (by
    have := names_len (js := js) hown
    exact ⟨by rw [hi.length]; omega, hi.length⟩)
theorem cut_use {fd tag tgt : Addr} {od : Obj} {ks : List PySem.Str} {val : PySem.Str → Value} {T U : TF} {vs ws : List Value} {xs ys : List PySem.Str} (B : Below A₀ base outer h₀) (F : Fr h₀ L s.heap m) (X : (hd.heap_1 w.params).In h₀) (N : News h₀ L s.heap news) (T0 : TP mean mg mb h₀)
    (hf : env.frame = some L) (hk : env.scope.kind = .function) (hd : dp + 50 < recursionLimit) (hu : un + 4000 < cLine) (hfd : (fd, od) ∈ news) (hdo : od.IsDictOf (SK w) (DM ks val)) (hsy : (fd == sysModules) = false) (hc1 : CompsH w (At h₀) tag T vs xs) (hc2 : CompsH w (At h₀) tgt U ws ys) (hl : vs.length ≤ 100) (hl2 : ws.length ≤ 100) (hz : ks.length ≤ 1000)
    (ret : ∀ D oD h' tk', Fr h₀ L h' m → News h₀ L h' ((D, oD) :: news) → Off1 D news → (D == sysModules) = false → oD.IsDictOf (SK w) (DM (ks.filter fun k => !((xs.drop ws.length).any (· == k))) val) → Q (.ref D) { s with heap := h', toks := tk' }) :
    wpAny (model PySem.Challenge.rw_pb0010_01.row.prog w) (topA dp un gd env outer) (call (.ref 204) [.ref fd, .ref tag, .ref tgt]) Q E s := by
  refine Spec.use0 (cut_spec w mean mg mb fd tag tgt ks val T U vs ws xs ys hl hl2 hz hsy) B F X N T0 hf hk hd hu ⟨⟨od, (N _ hfd).1, hdo⟩, hc1.mono fun a o e => F.keep a o e, hc2.mono fun a o e => F.keep a o e⟩ ?_
  rintro r new h' tk' F' N' hne - ⟨D, oD, rfl, rfl, h1, h2⟩
  exact ret D oD h' tk' F' N' (off1_apart hne) h1 h2
end
theorem News.thin {h₀ h : Heap} {L : Addr} {x1 x2 a b y1 y2 y3 : Addr × Obj} {rest : List (Addr × Obj)} (N : News h₀ L h (x1 :: x2 :: a :: b :: y1 :: y2 :: y3 :: rest)) : News h₀ L h (a :: b :: rest) := fun p hp => by
  rcases List.mem_cons.mp hp with rfl | hp
  · exact N _ (by simp)
  rcases List.mem_cons.mp hp with rfl | hp
  · exact N _ (by simp)
  · exact N _ (by simp [hp])
theorem News.tail1 {h₀ h : Heap} {L : Addr} {x1 : Addr × Obj} {rest : List (Addr × Obj)} (N : News h₀ L h (x1 :: rest)) : News h₀ L h rest := fun p hp => N p (.tail _ hp)
theorem TysOK.compsH {w : World} {R : Addr → Obj → Prop} {ts : List (Addr × TF)} {es : List BE} {dxs vxs : List PySem.Str} (T : TysOK w R ts es dxs vxs) {i : Nat} {q : Addr × TF} {is : List Nat} (hq : ts[i]? = some q) (hu : UpR es (i : Int) is) (hl : is.length ≤ 10) :
    ∃ cvs, CompsH w R q.1 q.2 cvs (namesOf es is) ∧ cvs.length ≤ 100 ∧ cvs.length = (namesOf es is).length := by
  refine byNo fun hno => ?_
  obtain ⟨c, n, cvs, h1, h2, h3⟩ := T.comps i q is hq hu
  refine hno ?_
  clear hno
  refine ⟨cvs, ⟨(T.ty i q hq).1, c, n, h1, h2, h3⟩, ?_, h3.1⟩
  have := names_len (js := is) T.own
  rw [h3.1]; omega
end
section
open PySem PySem.W PyProof.Rows PySem.Calls PySem.SeqAt PySem.Spec PyProof.Rows.LCg
set_option maxRecDepth 100000
set_option maxHeartbeats 1000000
theorem kvs_val {kvs : List (PySem.Str × Value)} {ks : List PySem.Str} (hks : kvs.map (·.1) = ks) (hnd : ks.Nodup) (hint : ∀ p ∈ kvs, ∃ n t, p.2 = .int n t) : ∃ val : PySem.Str → Value, kvs = DM ks val ∧ ∀ k ∈ ks, ∃ n t, val k = .int n t := by
  subst hks
  exact ⟨_, kvs_dm hnd, dm_int hint⟩
section
variable {prog : Program} {w : World} {A : Around} {E : Value → Shared → Prop} {s : Shared} {h₀ : Heap} {L d : Addr} {m : FMap} {env : Env} {news : List (Addr × Obj)}
noncomputable def DcSrcA (prog : Program) (w : World) (A : Around) (h₀ : Heap) (L : Addr) (m : FMap) (env : Env) (x y : PySem.Str) (c vx : PySem.Expr) (scope : Scope) (cl : List (PySem.Str × Addr)) (pf : PySem.Str → Bool) (val : PySem.Str → Value) (Q : Flow → Shared → Prop) (xv : Value) (s₁ : Shared) : Prop :=
  ∃ (d : Addr) (kvs : List (PySem.Str × Value)) (news : List (Addr × Obj)), xv = .ref d ∧ Fr h₀ L s₁.heap m ∧ News h₀ L s₁.heap news ∧ s₁.heap.DictOf (PySem.strKind prog w) d kvs ∧ (d == sysModules) = false ∧ kvs.length ≤ 10000 ∧
    (∀ C k t s₃ m₃ E', k ∈ kvs.map (·.1) → s₃.heap.Ns C m₃ → m₃ x = some (.str k t) → (∀ b o, s₁.heap.get? b = some o → s₃.heap.get? b = some o) →
      wpAny (model prog w) A (isTrue c (compEnvC scope cl C env) (eval c (compEnvC scope cl C env))) (fun ok s₄ => ok = pf k ∧ Keeps s₃ s₄) E' s₃) ∧
    (∀ C k t s₃ m₃ E', k ∈ kvs.map (·.1) → s₃.heap.Ns C m₃ → m₃ x = some (.str k t) → (∀ b o, s₁.heap.get? b = some o → s₃.heap.get? b = some o) →
      wpAny (model prog w) A (eval vx (compEnvC scope cl C env)) (fun y s₄ => y = val k ∧ Keeps s₃ s₄) E' s₃) ∧
    (∀ D oD h' tk, Fr h₀ L h' (fun z => if z = y then some (.ref D) else m z) → News h₀ L h' ((D, oD) :: news) → Off1 D news → (D == sysModules) = false → oD.IsDictOf (PySem.strKind prog w) (((kvs.map (·.1)).filter pf).map fun k => (k, val k)) → Q .next { s₁ with heap := h', toks := tk })
theorem dictcomp_keysA {iter c vx : PySem.Expr} {x y : PySem.Str} {p1 px py pos spos : Pos} {QF : Flow → Shared → Prop} {scope : Scope} {cl : List (PySem.Str × Addr)} (pf : PySem.Str → Bool) (val : PySem.Str → Value) (F₀ : Fr h₀ L s.heap m) (hLe : env.locals = L)
    (hsw : swapsWith (.DictComp (.Name x p1) vx [⟨.Name x px, iter, [c], 0⟩] scope pos) (some (.Name y py)) spos.line env = pure true) (hy : env.kindOf y = some .local) (hp : (env.scope.kind == .class || (env.scope.kind == .module && env.locals != env.globals)) = false) (hbig : sysModules < h₀.objs.size) (hh : A.handled = none)
    (hclos : closureFor scope env = pure cl) (hcell : ∀ y ∈ scope.names, y.2 ≠ .cell) (hkind : scope.kind = .function)
    (hnames : ∀ y ∈ scope.names, y.2 = .local → scope.names.lookup y.1 = some .local) (hx : scope.names.lookup x = some .local) (hd : (x == ("__debug__" : Str)) = false)
    (h : wpAny (model prog w) A (eval iter env) (DcSrcA prog w A h₀ L m env x y c vx scope cl pf val QF) E s)
    (hs : ∀ x, foldedSetIterable iter env x = pure x := by intro _; rfl) :
    wpAny (model prog w) A (exec (.Assign [.Name y py] (.DictComp (.Name x p1) vx [⟨.Name x px, iter, [c], 0⟩] scope pos) spos) env) QF E s := by
  have _ := F₀
  subst hLe
  rw [exec_Assign_Name_used _ _ _ _ hsw]
  refine wpAny_bind (wpAny_standAt (wpAny_bind ?_))
  show wpAny _ A (do let _ ← comprehension (.DictComp (.Name x p1) vx [⟨.Name x px, iter, [c], 0⟩] scope pos) scope env _ newDict false (eval iter env) (some (assign (.Name y py) env))) _ _ s
  refine wpAny_bind (wpAny_mono (wpAny_comprehension_free (use := some (assign (.Name y py) env)) (Q := fun _ s' => QF .next s') rfl hs hclos hkind hnames
    (wpAny_mono h (fun xv s₁ h₁ => ?_) fun _ _ z => z)) (fun _ s' hq => wpAny_pure (wpAny_pure hq)) fun _ _ z => z)
  refine byNo fun hno => ?_
  obtain ⟨d, kvs, news, rfl, F, N, hD, hsy, hz, ht, hv, ret⟩ := h₁
  obtain ⟨ep, hat⟩ := hD.dictAt
  refine hno ?_
  clear hno
  have hlt : d < s₁.heap.objs.size := hat.lt_size
  have hnd := hat.nodup
  refine wpAny_pyIter_dict hsy hat ?_
  generalize ei : ({ cls := .type "dict_keyiterator", data := .fields #[.ref d, .int 0 0, .int kvs.length 0, .int ep 0] } : Obj) = oi
  have up : ∀ b o, s₁.heap.get? b = some o → (s₁.heap.push oi).get? b = some o := fun b o e => Heap.get?_push_of_some _ e
  refine dict_block (RR := fun acc C => compPost (model prog w) A E (some (assign (.Name y py) env)) (fun _ s' => QF .next s') acc C) hcell hkind ?_
  dsimp only
  rw [Heap.size_push]
  intro h₁ tk m₁ hns hnew old
  have W := Walks.dictKeys (prog := prog) (w := w) (knd := PySem.strKind prog w) hh s₁.heap.objs.size d (Nat.ne_of_lt hlt) kvs ep
  have hst : h₁.IsKeyIter s₁.heap.objs.size d 0 kvs.length ep ∧ h₁.DictAt (PySem.strKind prog w) d kvs ep :=
    ⟨⟨_, old _ _ (Heap.get?_push_size _ (by subst ei; rfl)), by subst ei; rfl, by subst ei; rfl⟩, (hat.push oi).keep old⟩
  refine ⟨fun Q E hq => W.self 0 _ _ _ hst hq, ?_⟩
  have kk0 : ∀ b o, s₁.heap.get? b = some o → h₁.get? b = some o := fun b o e => old b o (up b o e)
  have hne : ∀ b o, s₁.heap.get? b = some o → b ≠ s₁.heap.objs.size + 1 + 1 ∧ b ∉ [s₁.heap.objs.size] ∧ b ≠ s₁.heap.objs.size + 1 := fun b o e => by
    have hb : @LT.lt Nat _ b s₁.heap.objs.size := Heap.lt_size e
    refine ⟨Nat.ne_of_lt (by omega), fun q => Nat.ne_of_lt hb (List.mem_singleton.mp q), Nat.ne_of_lt (by omega)⟩
  have hfp : ∀ a, @LT.lt Nat _ s₁.heap.objs.size a → a ∉ [s₁.heap.objs.size, d] := fun a ha q => by
    rcases List.mem_cons.mp q with q | q
    · exact Nat.lt_irrefl _ (q ▸ ha)
    · rw [List.mem_singleton.mp q] at ha; exact Nat.lt_irrefl _ (Nat.lt_trans ha hlt)
  refine codeAny_compLoop_walkD (hsz := by rw [sizeLine_eq]; omega) (knd := PySem.strKind prog w) (cenv := compEnvC scope cl (s₁.heap.objs.size + 1 + 1) env) W (pfV pf) (fun v k => ∃ t, v = .str k t) (fun v y => ∃ k t, v = .str k t ∧ y = val k)
    (lookup_relabel_local hx) (by simp [compEnvC, relabel, hkind]) (Nat.ne_of_lt (Nat.lt_succ_self _)) (hfp _ (Nat.lt_succ_self _)) (hfp _ (Nat.lt_succ_of_lt (Nat.lt_succ_self _))) hst hnew hns ?_ ?_ ?_ ?_
  · rintro i v s₃ m₃ ⟨k, y, hk, hkv⟩ hn hm hk3
    refine byNo fun hno => ?_
    obtain ⟨t, rfl⟩ := is_strK hkv
    refine hno ?_
    clear hno
    have kk : ∀ b o, s₁.heap.get? b = some o → s₃.heap.get? b = some o := fun b o e => let z := hne b o e; hk3 b o z.1 z.2.1 z.2.2 (kk0 b o e)
    exact tests_one (wpAny_mono (ht _ k t s₃ m₃ _ (List.mem_map.mpr ⟨(k, y), List.mem_of_getElem? hk, rfl⟩) hn hm kk) (fun ok s₄ h4 => h4) fun _ _ z => z)
  · rintro i v s₃ m₃ ⟨k, y, hk, hkv⟩ hp hn hm hk3
    refine byNo fun hno => ?_
    obtain ⟨t, rfl⟩ := is_strK hkv
    refine hno ?_
    clear hno
    exact wpAny_Name (wpAny_loadName_local (by simp [compEnvC, relabel, hkind]) (lookup_relabel_local hx) hn hm ⟨⟨k, hkv, t, rfl⟩, s₃.heap, s₃.toks, rfl, fun _ _ e => e⟩) hd
  · rintro i v s₃ m₃ ⟨k, y, hk, hkv⟩ hp hn hm hk3
    refine byNo fun hno => ?_
    obtain ⟨t, rfl⟩ := is_strK hkv
    refine hno ?_
    clear hno
    have kk : ∀ b o, s₁.heap.get? b = some o → s₃.heap.get? b = some o := fun b o e => let z := hne b o e; hk3 b o z.1 z.2.1 z.2.2 (kk0 b o e)
    exact wpAny_mono (hv _ k t s₃ m₃ _ (List.mem_map.mpr ⟨(k, y), List.mem_of_getElem? hk, rfl⟩) hn hm kk) (fun y s₄ h4 => ⟨⟨k, t, rfl, h4.1⟩, h4.2⟩) fun _ _ z => z
  · intro h' tk' m' kvs' vs hn' hD' hlen hP hall hk
    have hsv := strs_of_keys hlen fun j v hj => hP j v hj
    have e := storedAll_map (val := val) (fun v k hk => hk) (fun k t y hy => by obtain ⟨k', t', e1, e2⟩ := hy; injection e1 with e3; rw [e3, e2]) hall _ (strs_filter (pf := pf) (fun k t => rfl) hsv) (hnd.sublist List.filter_sublist)
    have kk1 : ∀ b o, s₁.heap.get? b = some o → h'.get? b = some o := fun b o q => let z := hne b o q; hk b o z.1 z.2.1 z.2.2 (kk0 b o q)
    have F1 := frAfter F kk1
    have nn : ∀ b, @LE.le Nat _ s₁.heap.objs.size b → h₀.get? b = none := fun b hb => by
      cases q : h₀.get? b with
      | none => rfl
      | some o => exact absurd (Heap.lt_size (F.keep b o q)) (Nat.not_lt.mpr hb)
    have lL : @LT.lt Nat _ env.locals s₁.heap.objs.size := F.ns.lt
    have hCL : s₁.heap.objs.size + 1 + 1 ≠ env.locals := fun q => Nat.lt_irrefl _ (Nat.lt_trans (q ▸ lL) (Nat.lt_succ_of_lt (Nat.lt_succ_self _)))
    have hDL : s₁.heap.objs.size + 1 ≠ env.locals := fun q => Nat.lt_irrefl _ (Nat.lt_trans (q ▸ lL) (Nat.lt_succ_self _))
    show wpAny _ A (assign (.Name y py) env (.ref (s₁.heap.objs.size + 1))) _ _ _
    refine wpAny_assign_Name (wpAny_storeName_local hy F1.ns (fun h₂ hn₂ hs₂ => ?_) hp)
    have hL₀ : h₀.get? env.locals = none := Heap.get?_none_of_le F.above
    have F₂ : Fr h₀ env.locals h₂ (fun z => if z = y then some (.ref (s₁.heap.objs.size + 1)) else m z) := ⟨hn₂, fun b o q => hs₂.extBut b o (fun z => by rw [z, hL₀] at q; cases q) (F1.keep b o q), F.above⟩
    refine ⟨m', hn'.sameBut hs₂ hCL, fun h'' hs'' => ?_⟩
    have hD2 := (hD'.extBut hs₂.extBut hDL).extBut hs''.extBut (Nat.ne_of_lt (Nat.lt_succ_self _))
    refine byNo fun hno => ?_
    obtain ⟨oD, ho, hdo⟩ := Heap.dictOf_iff.mp hD2
    refine hno ?_
    clear hno
    have F₃ := F₂.change hs'' hCL (nn _ (Nat.le_succ_of_le (Nat.le_succ _)))
    have hns' : (s₁.heap.objs.size + 1 == sysModules) = false := by
      have := (F.push oi).notModules hbig
      rwa [Heap.size_push] at this
    refine ret _ oD h'' _ F₃ (fun p hp => ?_) ?_ hns' (e ▸ hdo)
    · rcases List.mem_cons.mp hp with rfl | hp
      · exact ⟨ho, hDL, nn _ (Nat.le_succ _)⟩
      · have z := hne p.1 p.2 (N p hp).1
        exact ⟨hs''.extBut _ _ z.1 (hs₂.extBut _ _ (N p hp).2.1 (kk1 _ _ (N p hp).1)), (N p hp).2⟩
    · exact off1_of fun p hp => (hne p.1 p.2 (N p hp).1).2.2
end
end
set_option maxHeartbeats 1000000

noncomputable def GOK (dp un : Nat) (gd : Option (List Code)) (env : Env) (h₀ : Heap) (s : Shared) (L : Addr) (tl : List (Addr × Obj)) (g : Heap) : Prop :=
  h₀.StaysIn g ∧ Below (topA dp un gd env []) h₀ [env] g ∧ (∀ a o, InL tl a o → At g a o) ∧ (∀ b o, s.heap.get? b = some o → b ≠ L → g.get? b = some o) ∧ s.heap.UpToSlots g
theorem GOK.next {dp un : Nat} {gd : Option (List Code)} {env : Env} {h₀ g g₂ : Heap} {s : Shared} {L : Addr} {tl : List (Addr × Obj)} {A₀ : Around} (x : GOK dp un gd env h₀ s L tl g) (Gr : Ground h₀ g (topA dp un gd env []) [env] g₂) (hf : env.frame = some L) (hL : ∀ p ∈ tl, s.heap.get? p.1 = some p.2 ∧ p.1 ≠ L) : GOK dp un gd env h₀ s L tl g₂ := by
  have _ := A₀
  refine byNo fun hno => ?_
  obtain ⟨h1, h2, h3, h4, h5⟩ := x
  refine hno ?_
  clear hno
  have nf : ∀ b, b ≠ L → ∀ v ∈ [env], v.frame ≠ some b := fun b hb v hv z => by
    rw [List.mem_singleton.mp hv, hf] at z; exact hb (Option.some.inj z).symm
  exact ⟨Gr.stays, Gr.below, fun a o e => Gr.keep a o (h3 a o e) (nf a (hL _ e).2), fun b o e n => Gr.keep b o (h4 b o e n) (nf b n), h5.trans Gr.slots⟩
theorem GOK.done {dp un : Nat} {gd : Option (List Code)} {env : Env} {h₀ g h' : Heap} {s : Shared} {L L' : Addr} {tl new : List (Addr × Obj)} {m' : FMap} {Post : Value → List (Addr × Obj) → Prop} {v : Value} {tk : Nat} (x : GOK dp un gd env h₀ s L tl g) (F : Fr g L' h' m') (N : News g L' h' new) (hp : Post v new) :
    DoneC s h₀ L L' Post v { s with heap := h', toks := tk } := ⟨g, h', tk, m', new, rfl, F, N, x.1, x.2.2.2.1, x.2.2.2.2, hp⟩
theorem in_nats {prog : Program} {w : World} {A : Around} {E : Value → Shared → Prop} {s : Shared} {l : Addr} {vs : List Value} {js : List Nat} {k : Nat} {t : Tok} {Q : Value → Shared → Prop} (hl : s.heap.IsList l vs.toArray) (hi : IntsAre vs (js.map fun (j : Nat) => (j : Int)))
    (h : Q (.bool (decide (k ∈ js))) s) : wpAny (model prog w) A (compareOp .In (.int ((k : Nat) : Int) t) (.ref l)) Q E s := by
  refine in_list_ints hl hi ?_
  have : ((js.map fun (j : Nat) => (j : Int)).any (· == ((k : Nat) : Int))) = decide (k ∈ js) := by
    rw [Bool.eq_iff_iff]
    simp only [List.any_map, List.any_eq_true, Function.comp, beq_iff_eq, decide_eq_true_eq]
    constructor
    · rintro ⟨x, hx, e⟩
      have : x = k := by omega
      exact this ▸ hx
    · exact fun hk => ⟨k, hk, rfl⟩
  rw [this]; exact h
theorem in_t {prog : Program} {w : World} {A : Around} {E : Value → Shared → Prop} {s : Shared} {l : Addr} {vs : List Value} {js : List Nat} {k : Nat} {t : Tok} {Q : Value → Shared → Prop} (hl : s.heap.IsList l vs.toArray) (hi : IntsAre vs (js.map fun (j : Nat) => (j : Int))) (hk : k ∈ js)
    (h : Q (.bool true) s) : wpAny (model prog w) A (compareOp .In (.int ((k : Nat) : Int) t) (.ref l)) Q E s := in_nats hl hi (by rw [decide_eq_true hk]; exact h)
theorem in_f {prog : Program} {w : World} {A : Around} {E : Value → Shared → Prop} {s : Shared} {l : Addr} {vs : List Value} {js : List Nat} {k : Nat} {t : Tok} {Q : Value → Shared → Prop} (hl : s.heap.IsList l vs.toArray) (hi : IntsAre vs (js.map fun (j : Nat) => (j : Int))) (hk : ¬ k ∈ js)
    (h : Q (.bool false) s) : wpAny (model prog w) A (compareOp .In (.int ((k : Nat) : Int) t) (.ref l)) Q E s := in_nats hl hi (by rw [decide_eq_false hk]; exact h)
noncomputable def FixR (w : World) (R : Addr → Obj → Prop) (bs : List Value) (fs : List PySem.Str) : Prop :=
  ∃ d od par tk oA fA ws n, bs[0]? = some (.ref d) ∧ R d od ∧ od.IsDictOf (SK w) (entKvs par tk oA [(Str.ofString "fixed", .ref fA)]) ∧ R fA (listOf ws.toArray n) ∧ StrsAre ws fs

section
variable {w : World} {mean : ExcName → Option Value} {mg mb : PySem.Str → Option Value} {dp un : Nat} {gd : Option (List Code)} {env : Env} {outer : List Env} {A₀ : Around} {base h₀ : Heap} {L : Addr} {m : PySem.Str → Option Value} {s : Shared} {Q : Value → Shared → Prop} {E : Value → Shared → Prop} {news : List (Addr × Obj)}
  {d t : Addr} {tsd tst : List (Addr × TF)} {TD TT : TF} {line : Value}
theorem way_up (B : Below A₀ base outer h₀) (F : Fr h₀ L s.heap m) (X : (hd.heap_1 w.params).In h₀) (N : News h₀ L s.heap news) (T0 : TP mean mg mb h₀) (hf : env.frame = some L) (hk : env.scope.kind = .function) (hd : dp + 60 < recursionLimit) (hu : un + 5000 < cLine)
    (c1 : ChainR w (At h₀) (.ref d) tsd) (c2 : ChainR w (At h₀) (.ref t) tst) (y1 : TyH w (At h₀) d TD) (y2 : TyH w (At h₀) t TT) (z1 : tsd.length ≤ 100) (z2 : tst.length ≤ 100) (n1 : ∀ p ∈ tsd, p.2.numbered) (n2 : ∀ p ∈ tst, p.2.numbered) (m1 : TD.numbered) (m2 : TT.numbered) (e1 : isDesc tsd TT = true)
    (ret : ∀ tk h' tk', Fr h₀ L h' m → News h₀ L h' news → Q (.str (Str.ofString "up") tk) { s with heap := h', toks := tk' }) :
    wpAny (model PySem.Challenge.rw_pb0010_01.row.prog w) (topA dp un gd env outer) (call (.ref 199) [.ref d, .ref t, line]) Q E s := by
  refine SpecR.use (way_spec w mean mg mb d t tsd tst TD TT line z1 z2 n1 n2 m1 m2) B F X N T0 hf hk hd hu ⟨c1.mono fun a o e => F.keep a o e, c2.mono fun a o e => F.keep a o e, y1.mono fun a o e => F.keep a o e, y2.mono fun a o e => F.keep a o e⟩ ?_ ?_
  · rintro r new h' tk' F' N' - ⟨rfl, ⟨_, tk, rfl⟩ | ⟨z, _⟩⟩
    · exact ret tk h' tk' F' N'
    · rw [e1] at z; cases z
  · rintro e d' od h' tk' Fl ⟨_, z, _⟩
    rw [e1] at z; cases z
theorem way_down (B : Below A₀ base outer h₀) (F : Fr h₀ L s.heap m) (X : (hd.heap_1 w.params).In h₀) (N : News h₀ L s.heap news) (T0 : TP mean mg mb h₀) (hf : env.frame = some L) (hk : env.scope.kind = .function) (hd : dp + 60 < recursionLimit) (hu : un + 5000 < cLine)
    (c1 : ChainR w (At h₀) (.ref d) tsd) (c2 : ChainR w (At h₀) (.ref t) tst) (y1 : TyH w (At h₀) d TD) (y2 : TyH w (At h₀) t TT) (z1 : tsd.length ≤ 100) (z2 : tst.length ≤ 100) (n1 : ∀ p ∈ tsd, p.2.numbered) (n2 : ∀ p ∈ tst, p.2.numbered) (m1 : TD.numbered) (m2 : TT.numbered) (e1 : isDesc tsd TT = false) (e2 : isDesc tst TD = true)
    (ret : ∀ tk h' tk', Fr h₀ L h' m → News h₀ L h' news → Q (.str (Str.ofString "down") tk) { s with heap := h', toks := tk' }) :
    wpAny (model PySem.Challenge.rw_pb0010_01.row.prog w) (topA dp un gd env outer) (call (.ref 199) [.ref d, .ref t, line]) Q E s := by
  refine SpecR.use (way_spec w mean mg mb d t tsd tst TD TT line z1 z2 n1 n2 m1 m2) B F X N T0 hf hk hd hu ⟨c1.mono fun a o e => F.keep a o e, c2.mono fun a o e => F.keep a o e, y1.mono fun a o e => F.keep a o e, y2.mono fun a o e => F.keep a o e⟩ ?_ ?_
  · rintro r new h' tk' F' N' - ⟨rfl, ⟨z, _⟩ | ⟨_, _, tk, rfl⟩⟩
    · rw [e1] at z; cases z
    · exact ret tk h' tk' F' N'
  · rintro e d' od h' tk' Fl ⟨_, _, z⟩
    rw [e2] at z; cases z
theorem way_no (B : Below A₀ base outer h₀) (F : Fr h₀ L s.heap m) (X : (hd.heap_1 w.params).In h₀) (N : News h₀ L s.heap news) (T0 : TP mean mg mb h₀) (hf : env.frame = some L) (hk : env.scope.kind = .function) (hd : dp + 60 < recursionLimit) (hu : un + 5000 < cLine)
    (c1 : ChainR w (At h₀) (.ref d) tsd) (c2 : ChainR w (At h₀) (.ref t) tst) (y1 : TyH w (At h₀) d TD) (y2 : TyH w (At h₀) t TT) (z1 : tsd.length ≤ 100) (z2 : tst.length ≤ 100) (n1 : ∀ p ∈ tsd, p.2.numbered) (n2 : ∀ p ∈ tst, p.2.numbered) (m1 : TD.numbered) (m2 : TT.numbered) (e1 : isDesc tsd TT = false) (e2 : isDesc tst TD = false)
    (rais : ∀ e d od h' tk', Flown base (env :: outer) s.heap h' e 51 d od (some .none) → FaultDict w line od → E (.ref e) { s with heap := h', toks := tk' }) :
    wpAny (model PySem.Challenge.rw_pb0010_01.row.prog w) (topA dp un gd env outer) (call (.ref 199) [.ref d, .ref t, line]) Q E s := by
  refine SpecR.use (way_spec w mean mg mb d t tsd tst TD TT line z1 z2 n1 n2 m1 m2) B F X N T0 hf hk hd hu ⟨c1.mono fun a o e => F.keep a o e, c2.mono fun a o e => F.keep a o e, y1.mono fun a o e => F.keep a o e, y2.mono fun a o e => F.keep a o e⟩ ?_ ?_
  · rintro r new h' tk' F' N' - ⟨rfl, ⟨z, _⟩ | ⟨_, z, tk, rfl⟩⟩
    · rw [e1] at z; cases z
    · rw [e2] at z; cases z
  · rintro e d' od h' tk' Fl ⟨h1, _, _⟩
    exact rais e d' od h' tk' Fl h1
theorem view_ok (B : Below A₀ base outer h₀) (F : Fr h₀ L s.heap m) (X : (hd.heap_1 w.params).In h₀) (N : News h₀ L s.heap news) (T0 : TP mean mg mb h₀) (hf : env.frame = some L) (hk : env.scope.kind = .function) (hd : dp + 60 < recursionLimit) (hu : un + 5000 < cLine)
    (c1 : ChainR w (At h₀) (.ref d) tsd) (y2 : TyH w (At h₀) t TT) (z1 : tsd.length ≤ 100) (n1 : ∀ p ∈ tsd, p.2.numbered) (m2 : TT.numbered) (e1 : isDesc tsd TT = true)
    (ret : ∀ h' tk', Fr h₀ L h' m → News h₀ L h' news → Q .none { s with heap := h', toks := tk' }) :
    wpAny (model PySem.Challenge.rw_pb0010_01.row.prog w) (topA dp un gd env outer) (call (.ref 192) [.ref d, .ref t, line]) Q E s := by
  refine SpecR.use (checkview_spec w mean mg mb (.ref d) t tsd TT line z1 n1 m2) B F X N T0 hf hk hd hu ⟨c1.mono fun a o e => F.keep a o e, y2.mono fun a o e => F.keep a o e⟩ ?_ ?_
  · rintro r new h' tk' F' N' - ⟨rfl, rfl, _⟩
    exact ret h' tk' F' N'
  · rintro e d' od h' tk' Fl ⟨z, _⟩
    rw [e1] at z; cases z
theorem view_no (B : Below A₀ base outer h₀) (F : Fr h₀ L s.heap m) (X : (hd.heap_1 w.params).In h₀) (N : News h₀ L s.heap news) (T0 : TP mean mg mb h₀) (hf : env.frame = some L) (hk : env.scope.kind = .function) (hd : dp + 60 < recursionLimit) (hu : un + 5000 < cLine)
    (c1 : ChainR w (At h₀) (.ref d) tsd) (y2 : TyH w (At h₀) t TT) (z1 : tsd.length ≤ 100) (n1 : ∀ p ∈ tsd, p.2.numbered) (m2 : TT.numbered) (e1 : isDesc tsd TT = false)
    (rais : ∀ e d od tk h' tk', Flown base (env :: outer) s.heap h' e 70 d od (some .none) → RaiseDict w (.str (Str.ofString "constraint_error") tk) line od → E (.ref e) { s with heap := h', toks := tk' }) :
    wpAny (model PySem.Challenge.rw_pb0010_01.row.prog w) (topA dp un gd env outer) (call (.ref 192) [.ref d, .ref t, line]) Q E s := by
  refine SpecR.use (checkview_spec w mean mg mb (.ref d) t tsd TT line z1 n1 m2) B F X N T0 hf hk hd hu ⟨c1.mono fun a o e => F.keep a o e, y2.mono fun a o e => F.keep a o e⟩ ?_ ?_
  · rintro r new h' tk' F' N' - ⟨rfl, rfl, z⟩
    rw [e1] at z; cases z
  · rintro e d' od h' tk' Fl ⟨_, tk, hp⟩
    exact rais e d' od tk h' tk' Fl hp
end
theorem TysOK.two {w : World} {R : Addr → Obj → Prop} {ts : List (Addr × TF)} {es : List BE} {dxs vxs : List PySem.Str} (T : TysOK w R ts es dxs vxs) {i : Nat} {q : Addr × TF} {is : List Nat} (hq : ts[i]? = some q) (hu : UpR es (i : Int) is) (hl : is.length ≤ 10) :
    ChainR w R (.ref q.1) (chainOf ts is) ∧ TyH w R q.1 q.2 ∧ (chainOf ts is).length ≤ 100 ∧ (∀ p ∈ chainOf ts is, p.2.numbered) ∧ q.2.numbered :=
  ⟨T.chainAt hq hu, (T.ty i q hq).1, Nat.le_trans (List.length_filterMap_le _ _) (by omega), T.chainNum, (T.ty i q hq).2.2⟩
section
set_option maxHeartbeats 8000000

theorem pair_up (w : World) (mean mg mb) (L : Addr) (tl : List (Addr × Obj)) (ts : List (Addr × TF)) (es : List BE) (dxs vxs : List PySem.Str) (bl tyl : Addr) (bs : List Value) (nb nt : Nat) (i j : Nat) (t1 t2 t3 : Tok) (ln : Int)
    (T : TysOK w (InL tl) ts es dxs vxs) (hE : EntsR w (InL tl) bs es) (hF : FixR w (InL tl) bs (dxs ++ vxs)) (hb : InL tl bl (listOf bs.toArray nb)) (ht : InL tl tyl (listOf (ts.map fun p => Value.ref p.1).toArray nt)) (hi : i < es.length) (hj : j < es.length) (hd : (dxs ++ vxs).length ≤ 10) (ha : ∀ is, UpR es (i : Int) is → j ∈ is) :
    SpecD L w mean mg mb 249 [.ref bl, .ref tyl, .int (i : Int) t1, .int (j : Int) t2, .int ln t3] 120 9000 (fun h => ∀ p ∈ tl, At h p.1 p.2 ∧ p.1 ≠ L) (fun r new => r = .bool true ∧ new = []) := by
  refine spec_enterDC [(Str.ofString "book", .ref bl), (Str.ofString "types", .ref tyl), (Str.ofString "one", .int (i : Int) t1), (Str.ofString "other", .int (j : Int) t2), (Str.ofString "line", .int ln t3)] (by k_is) (by k_is) (fun _ => BindsTo.of_eq rfl) ?K (by decide) rfl rfl rfl ?_
  case K =>
    intro n x hx
    simp only [List.mem_cons, List.not_mem_nil, or_false] at hx
    rcases hx with rfl | rfl | rfl | rfl | rfl <;> first | exact .inl rfl | exact .inr ⟨rfl, rfl⟩
  intro dp un gd env h₀ g L' h₁ s tk₀ cells hd hu hP G hfL st F N Y B X₀ Tp₀
  have X := X₀.keeps st
  have Tp := Tp₀.keeps st
  have hPL : ∀ p ∈ tl, s.heap.get? p.1 = some p.2 ∧ p.1 ≠ L := hP
  have GK : GOK dp un gd env h₀ s L tl g := ⟨st, B, fun a o e => G a o (hP _ e).1 (by simp), fun b o e _ => G b o e (by simp), Heap.UpToSlots.of_keeps fun b o e => G b o e (by simp)⟩
  refine byNo fun hno => ?_
  obtain ⟨o1, o2, o3, rfl, k1, k2, k3⟩ := CellsAre.three Y
  refine hno ?_
  clear hno
  (try dsimp only [List.cons_append, List.nil_append, List.append_nil] at N)
  replace k1 : o1.data = .cell none := k1
  replace k2 : o2.data = .cell none := k2
  replace k3 : o3.data = .cell (some (.ref bl)) := k3
  clear Y
  refine byNo fun hno => ?_
  obtain ⟨is, hui, hil, hisl⟩ := T.up i hi
  obtain ⟨js, huj, hjl, hjsl⟩ := T.up j hj
  refine hno ?_
  clear hno
  have hes := T.small
  have hB : At g bl (listOf bs.toArray nb) := GK.2.2.1 _ _ hb
  have hEg := hE.mono GK.2.2.1
  have hBl : g.IsList bl bs.toArray := isListOf hB
  have hTl : g.IsList tyl (ts.map fun p => Value.ref p.1).toArray := isListOf (GK.2.2.1 _ _ ht)
  refine byNo fun hno => ?_
  obtain ⟨qi, hqi⟩ := T.get hi
  obtain ⟨qj, hqj⟩ := T.get hj
  refine hno ?_
  clear hno
  have hii : (ts.map fun p => Value.ref p.1)[((i : Nat) : Int).toNat]? = some (.ref qi.1) := by simp [hqi]
  have hjj : (ts.map fun p => Value.ref p.1)[((j : Nat) : Int).toNat]? = some (.ref qj.1) := by simp [hqj]
  refine byNo fun hno => ?_
  obtain ⟨c1, y1, z1, n1, m1⟩ := (T.mono GK.2.2.1).two hqi hui hil
  obtain ⟨c2, y2, z2, n2, m2⟩ := (T.mono GK.2.2.1).two hqj huj hjl
  refine hno ?_
  clear hno
  have hij : isDesc (chainOf ts is) qj.2 = decide (j ∈ is) := T.desc hqj hisl
  have hji : isDesc (chainOf ts js) qi.2 = decide (i ∈ js) := T.desc hqi hjsl
  replace ha := ha is hui
  rw [decide_eq_true ha] at hij
  refine byNo fun hno => ?_
  obtain ⟨ci, hci, hcil, hcie⟩ := (T.mono GK.2.2.1).compsH hqi hui hil
  obtain ⟨cj, hcj, hcjl, hcje⟩ := (T.mono GK.2.2.1).compsH hqj huj hjl
  obtain ⟨pre, hpre⟩ := names_prefix hui ha huj
  refine hno ?_
  clear hno
  have hown := T.own
  refine byNo fun hno => ?_
  obtain ⟨d0, od0, par0, tk0, oA0, fA, wsf, nf, hb0, hd0, hdo0, hfA, hwsf⟩ := hF
  refine hno ?_
  clear hno
  replace hb0 : bs[((0 : Int)).toNat]? = some (.ref d0) := hb0
  replace hd0 : At g d0 od0 := GK.2.2.1 _ _ hd0
  replace hfA : At g fA (listOf wsf.toArray nf) := GK.2.2.1 _ _ hfA
  have hfAl : g.IsList fA wsf.toArray := isListOf hfA
  have hwl := hwsf.length
  have hnod := T.nodup i is hi hui
  have hnl : (dxs ++ vxs ++ namesOf es is).length ≤ 1000 := by
    have := names_len (js := is) hown
    rw [List.length_append]; omega
  k_with_none
  (try k_unmd); (try dsimp only); (try k_fold)
  focus
    iterate 15 ((try dsimp only); walk1)
    ((try dsimp only); refine above_use (by assumption) (by assumption) (by assumption) (by assumption) (by assumption) rfl rfl (by k_search 2) (by k_search 2) (by assumption) (by assumption) (by assumption) (by omega) (by omega) (by omega) ?_; (intro _ _ _ _ _ _ _ _ hi; (have hil := IntsAre.length hi); (try simp only [List.length_map] at hil); revert hi hil; intro _ _))
    ((try dsimp only); first | (refine in_t (by first | exact Heap.IsList.at (by assumption) (fun o e => Fr.keep (by assumption) _ o e) | exact isListOf (News.get (by assumption) (by k_search 3))) (by assumption) (by assumption) ?_) | (refine in_f (by first | exact Heap.IsList.at (by assumption) (fun o e => Fr.keep (by assumption) _ o e) | exact isListOf (News.get (by assumption) (by k_search 3))) (by assumption) (by assumption) ?_) | (refine in_nats (by first | exact Heap.IsList.at (by assumption) (fun o e => Fr.keep (by assumption) _ o e) | exact isListOf (News.get (by assumption) (by k_search 3))) (by assumption) ?_))
    iterate 12 ((try dsimp only); walk1)
    ((try dsimp only); refine above_use (by assumption) (by assumption) (by assumption) (by assumption) (by assumption) rfl rfl (by k_search 2) (by k_search 2) (by assumption) (by assumption) (by assumption) (by omega) (by omega) (by omega) ?_; (intro _ _ _ _ _ _ _ _ hi; (have hil := IntsAre.length hi); (try simp only [List.length_map] at hil); revert hi hil; intro _ _))
    ((try dsimp only); first | (refine in_t (by first | exact Heap.IsList.at (by assumption) (fun o e => Fr.keep (by assumption) _ o e) | exact isListOf (News.get (by assumption) (by k_search 3))) (by assumption) (by assumption) ?_) | (refine in_f (by first | exact Heap.IsList.at (by assumption) (fun o e => Fr.keep (by assumption) _ o e) | exact isListOf (News.get (by assumption) (by k_search 3))) (by assumption) (by assumption) ?_) | (refine in_nats (by first | exact Heap.IsList.at (by assumption) (fun o e => Fr.keep (by assumption) _ o e) | exact isListOf (News.get (by assumption) (by k_search 3))) (by assumption) ?_))
    iterate 22 ((try dsimp only); walk1)
    ((try dsimp only); refine wpAny_Try_except ?_)
    iterate 9 ((try dsimp only); walk1)
    ((try dsimp only); refine item_at (by first | exact Heap.IsList.at (by assumption) (fun o e => Fr.keep (by assumption) _ o e) | exact isListOf (News.get (by assumption) (by k_search 3))) (by omega) (by omega) (by assumption) ?_)
    iterate 4 ((try dsimp only); walk1)
    ((try dsimp only); refine item_at (by first | exact Heap.IsList.at (by assumption) (fun o e => Fr.keep (by assumption) _ o e) | exact isListOf (News.get (by assumption) (by k_search 3))) (by omega) (by omega) (by assumption) ?_)
    iterate 4 ((try dsimp only); walk1)
    ((try dsimp only); first | (refine way_up (by assumption) (by assumption) (by assumption) (by assumption) (by assumption) rfl rfl (by k_search 2) (by k_search 2) (by assumption) (by assumption) (by assumption) (by assumption) (by assumption) (by assumption) (by assumption) (by assumption) (by assumption) (by assumption) (by assumption) ?_; (intro _ _ _ _ _)) | (refine way_down (by assumption) (by assumption) (by assumption) (by assumption) (by assumption) rfl rfl (by k_search 2) (by k_search 2) (by assumption) (by assumption) (by assumption) (by assumption) (by assumption) (by assumption) (by assumption) (by assumption) (by assumption) (by assumption) (by assumption) (by assumption) ?_; (intro _ _ _ _ _)) | (refine way_no (by assumption) (by assumption) (by assumption) (by assumption) (by assumption) rfl rfl (by k_search 2) (by k_search 2) (by assumption) (by assumption) (by assumption) (by assumption) (by assumption) (by assumption) (by assumption) (by assumption) (by assumption) (by assumption) (by assumption) (by assumption) ?_; (intro _ _ _ _ _ _ _)))
    iterate 14 ((try dsimp only); walk1)
    ((try dsimp only); refine wpAny_Try_except ?_)
    iterate 10 ((try dsimp only); walk1)
    ((try dsimp only); refine item_at (by first | exact Heap.IsList.at (by assumption) (fun o e => Fr.keep (by assumption) _ o e) | exact isListOf (News.get (by assumption) (by k_search 3))) (by omega) (by omega) (by assumption) ?_)
    iterate 4 ((try dsimp only); walk1)
    ((try dsimp only); refine item_at (by first | exact Heap.IsList.at (by assumption) (fun o e => Fr.keep (by assumption) _ o e) | exact isListOf (News.get (by assumption) (by k_search 3))) (by omega) (by omega) (by assumption) ?_)
    iterate 4 ((try dsimp only); walk1)
    ((try dsimp only); first | (refine view_ok (by assumption) (by assumption) (by assumption) (by assumption) (by assumption) rfl rfl (by k_search 2) (by k_search 2) (by assumption) (by assumption) (by assumption) (by assumption) (by assumption) (by assumption) ?_; (intro _ _ _ _)) | (refine view_no (by assumption) (by assumption) (by assumption) (by assumption) (by assumption) rfl rfl (by k_search 2) (by k_search 2) (by assumption) (by assumption) (by assumption) (by assumption) (by assumption) (by assumption) ?_; (intro _ _ _ _ _ _ _ _)))
    iterate 41 ((try dsimp only); walk1)
    ((try dsimp only); refine names_use (by assumption) (by assumption) (by assumption) (by assumption) (by assumption) rfl rfl (by k_search 2) (by k_search 2) (Fr.keep (by assumption) _ _ (by assumption)) (EntsR.mono (by assumption) (fun a o e => Fr.keep (by assumption) a o e)) (by assumption) (by omega) (by omega) (by omega) (by assumption) ?_; (intro _ _ _ _ _ _ _ _ _ _))
    iterate 10 ((try dsimp only); walk1)
    ((try dsimp only); refine names_use (by assumption) (by assumption) (by assumption) (by assumption) (by assumption) rfl rfl (by k_search 2) (by k_search 2) (Fr.keep (by assumption) _ _ (by assumption)) (EntsR.mono (by assumption) (fun a o e => Fr.keep (by assumption) a o e)) (by assumption) (by omega) (by omega) (by omega) (by assumption) ?_; (intro _ _ _ _ _ _ _ _ _ _))
    iterate 21 ((try dsimp only); walk1)
    ((try dsimp only); refine item_at (by first | exact Heap.IsList.at (by assumption) (fun o e => Fr.keep (by assumption) _ o e) | exact isListOf (News.get (by assumption) (by k_search 3))) (by omega) (by omega) (by assumption) ?_)
    iterate 4 ((try dsimp only); walk1)
    ((try dsimp only); refine item_at (by first | exact Heap.IsList.at (by assumption) (fun o e => Fr.keep (by assumption) _ o e) | exact isListOf (News.get (by assumption) (by k_search 3))) (by omega) (by omega) (by assumption) ?_)
    iterate 2 ((try dsimp only); walk1)
    ((try dsimp only); refine extnames_use (by assumption) (by assumption) (by assumption) (by assumption) (by assumption) rfl rfl (by k_search 2) (by k_search 2) (by assumption) (by assumption) (by assumption) (by assumption) ?_; (intro _ _ _ _ _ _ _ _ _))
    iterate 10 ((try dsimp only); walk1)
    ((try dsimp only); refine len_L (by first | exact Heap.IsList.at (by assumption) (fun o e => Fr.keep (by assumption) _ o e) | exact isListOf (News.get (by assumption) (by k_search 3))) (by k_search 4) ?_; (intro _ _))
    iterate 2 ((try dsimp only); walk1)
    ((try dsimp only); refine' slice_fromH (by assumption) (by assumption) ?l ?_ ?s ?z; (case l => first | exact Heap.IsList.at (by assumption) (fun o e => Fr.keep (by assumption) _ o e) | exact isListOf (News.get (by assumption) (by k_search 3))); (case s => with_unfolding_all rfl); (case z => k_search 4); (intro _ _ _ _ lt; (try replace lt := allLt_of lt); revert lt; intro _))
    ((try dsimp only); refine ne_drop (by first | exact Heap.IsList.at (by assumption) (fun o e => Fr.keep (by assumption) _ o e) | exact isListOf (News.get (by assumption) (by k_search 3))) (by first | exact Heap.IsList.at (by assumption) (fun o e => Fr.keep (by assumption) _ o e) | exact isListOf (News.get (by assumption) (by k_search 3))) (by assumption) (by assumption) (by omega) (by k_search 2) ?_)
    iterate 4 ((try dsimp only); walk1)
    ((try dsimp only); refine wpAny_Assign_Name ?_)
  all_goals (try dsimp only)
  rename News _ _ _ _ => N9
  replace N9 := News.thin (News.tail1 N9)
  refine dictcomp_enum (by assumption) (modules_low (Top.nolimit Tp)) rfl rfl (by decide) rfl (by decide) (by decide) (by decide) (by decide) (by decide) (by decide) ?_
  focus
    iterate 9 ((try dsimp only); walk1)
    ((try dsimp only); refine item_at (by first | exact Heap.IsList.at (by assumption) (fun o e => Fr.keep (by assumption) _ o e) | exact isListOf (News.get (by assumption) (by k_search 3))) (by omega) (by omega) (by assumption) ?_)
    ((try dsimp only); walk1)
    ((try dsimp only); refine sub_dict (Heap.dictOf_iff.mpr ⟨_, Fr.keep (by assumption) _ _ (by assumption), (by assumption)⟩) ent_fixed ?_; (intro _))
    ((try dsimp only); walk1)
    ((try dsimp only); refine add_L (by assumption) (by assumption) (by first | exact Heap.IsList.at (by assumption) (fun o e => Fr.keep (by assumption) _ o e) | exact isListOf (News.get (by assumption) (by k_search 3))) (by first | exact Heap.IsList.at (by assumption) (fun o e => Fr.keep (by assumption) _ o e) | exact isListOf (News.get (by assumption) (by k_search 3))) ?_ (by k_search 4); (intro _ _ _ _ lt; (try replace lt := allLt_of lt); revert lt; intro _))
    ((try dsimp only); walk1)
  have hstf := hwsf.append' (‹StrsAre _ (namesOf es is)›)
  refine enum_src (by assumption) (by assumption) (by k_search 3) hstf hnod hnl ?_
  intro fd od1 h3 tk3 kvs F3 N3 off3 hsy hdo hks hint
  (try simp only [Off1, and_true] at off3)
  refine byNo fun hno => ?_
  obtain ⟨val, hkd, hvi⟩ := kvs_val hks hnod hint
  refine hno ?_
  clear hno
  rw [hkd] at hdo
  clear hkd hks hint
  focus
    iterate 2 ((try dsimp only); walk1)
  all_goals (try dsimp only)
  rename Fr _ _ _ _ => F5
  rename News _ _ _ _ => N5
  rename_i h5 oF dF
  rename StrsAre _ (namesOf es js) => hsl
  refine dictcomp_keysA (fun k => (dxs ++ vxs ++ namesOf es js).any (· == k)) val F5 rfl (by first | rfl | with_unfolding_all rfl) rfl rfl (modules_low (Top.nolimit Tp)) rfl rfl (by decide) rfl (by decide) (by decide) (by decide) ?_
  focus
    ((try dsimp only); walk1)
  all_goals (try dsimp only)
  refine ⟨fd, DM (dxs ++ vxs ++ namesOf es is) val, _, rfl, F5, N5, Heap.dictOf_iff.mpr ⟨od1, News.get N5 (by k_search 3), hdo⟩, hsy, (by rw [List.length_map]; omega), ?t, ?v, ?r⟩
  case t =>
    intro C k t s₃ m₃ E' hk hn hm kk
    refine wpAny_isTrue_Compare1 (ldVarK hn hm ?_)
    refine wpAny_BinOp ?_
    refine Subscript_ (Subscript_ (ldCellK (c := L' + 1) rfl ⟨o3, kk _ _ (News.get N5 (by k_search 3)), k3⟩ ?_))
    refine wpAny_Constant_int ?_
    refine item_at (isListOf (kk _ _ (F5.keep _ _ hB))) (by omega) (by omega) hb0 ?_
    refine wpAny_Constant_str ?_
    refine sub_dict (Heap.dictOf_iff.mpr ⟨od0, kk _ _ (F5.keep _ _ hd0), hdo0⟩) ent_fixed ?_
    intro tk4
    refine ldCellK (c := L' + 1 + 1) rfl ⟨_, kk _ _ (News.get N5 (by k_search 3)), by assumption⟩ ?_
    refine add_push (isListOf (kk _ _ (F5.keep _ _ hfA))) (isListOf (kk _ _ (News.get N5 (by k_search 3)))) ?z ?_
    case z =>
      have := hsl.length
      have := names_len (js := js) hown
      rw [sizeLine_eq]; omega
    refine in_list_strs (isListOf (Heap.get?_push_size _ rfl)) (hwsf.append' hsl) ?_
    exact wpAny_truthy_bool ⟨rfl, _, _, rfl, fun b o e => Heap.get?_push_of_some _ e⟩
  case v =>
    intro C k t s₃ m₃ E' hk hn hm kk
    rw [dm_keys] at hk
    refine Subscript_ (ldCellK (c := L' + 1 + 1 + 1) rfl ⟨oF, kk _ _ (News.get N5 (by k_search 3)), dF⟩ ?_)
    refine ldVarK hn hm ?_
    exact sub_dict (Heap.dictOf_iff.mpr ⟨od1, kk _ _ (News.get N5 (by k_search 3)), hdo⟩) (dm_at hk) fun tk => ⟨rfl, _, _, rfl, fun _ _ e => e⟩
  case r =>
    intro D2 oD2 h6 tk6 F6 N6 off6 hsy2 hdo2
    rw [dm_keys] at hdo2
    focus
      iterate 12 ((try dsimp only); walk1)
      ((try dsimp only); refine item_at (by first | exact Heap.IsList.at (by assumption) (fun o e => Fr.keep (by assumption) _ o e) | exact isListOf (News.get (by assumption) (by k_search 3))) (by omega) (by omega) (by assumption) ?_)
      iterate 4 ((try dsimp only); walk1)
      ((try dsimp only); refine item_at (by first | exact Heap.IsList.at (by assumption) (fun o e => Fr.keep (by assumption) _ o e) | exact isListOf (News.get (by assumption) (by k_search 3))) (by omega) (by omega) (by assumption) ?_)
      iterate 2 ((try dsimp only); walk1)
    all_goals (try dsimp only)
    refine cut_use B F6 X N6 Tp rfl rfl (by k_search 2) (by k_search 2) (by k_search 3) hdo hsy hci hcj hcil hcjl hnl ?_
    intro D7 oD7 h7 tk7 F7 N7 off7 hsy7 hdo7
    focus
      ((try dsimp only); walk1)
    all_goals (try dsimp only)
    refine eq_dm (News.get N7 (by k_search 3)) (News.get N7 (by k_search 3)) hsy7 hsy2 hdo7 hdo2 ?e (fun k hk => hvi k (List.mem_filter.mp hk).1) (by k_search 2) ?_
    case e =>
      rw [hpre, hcje]
      exact cut_same (hpre ▸ hnod)
    focus
      (k_unfold; (try dsimp only))
    all_goals (try dsimp only)
    exact GOK.done GK (by assumption) News.nil ⟨rfl, rfl⟩
end
set_option maxHeartbeats 1000000
section
set_option maxHeartbeats 8000000

theorem pair_down (w : World) (mean mg mb) (L : Addr) (tl : List (Addr × Obj)) (ts : List (Addr × TF)) (es : List BE) (dxs vxs : List PySem.Str) (bl tyl : Addr) (bs : List Value) (nb nt : Nat) (i j : Nat) (t1 t2 t3 : Tok) (ln : Int)
    (T : TysOK w (InL tl) ts es dxs vxs) (hE : EntsR w (InL tl) bs es) (hF : FixR w (InL tl) bs (dxs ++ vxs)) (hb : InL tl bl (listOf bs.toArray nb)) (ht : InL tl tyl (listOf (ts.map fun p => Value.ref p.1).toArray nt)) (hi : i < es.length) (hj : j < es.length) (hd : (dxs ++ vxs).length ≤ 10) (ha : ∀ is, UpR es (i : Int) is → ¬ j ∈ is) (hb2 : ∀ js, UpR es (j : Int) js → i ∈ js) :
    SpecD L w mean mg mb 249 [.ref bl, .ref tyl, .int (i : Int) t1, .int (j : Int) t2, .int ln t3] 120 9000 (fun h => ∀ p ∈ tl, At h p.1 p.2 ∧ p.1 ≠ L) (fun r new => r = .bool true ∧ new = []) := by
  refine spec_enterDC [(Str.ofString "book", .ref bl), (Str.ofString "types", .ref tyl), (Str.ofString "one", .int (i : Int) t1), (Str.ofString "other", .int (j : Int) t2), (Str.ofString "line", .int ln t3)] (by k_is) (by k_is) (fun _ => BindsTo.of_eq rfl) ?K (by decide) rfl rfl rfl ?_
  case K =>
    intro n x hx
    simp only [List.mem_cons, List.not_mem_nil, or_false] at hx
    rcases hx with rfl | rfl | rfl | rfl | rfl <;> first | exact .inl rfl | exact .inr ⟨rfl, rfl⟩
  intro dp un gd env h₀ g L' h₁ s tk₀ cells hd hu hP G hfL st F N Y B X₀ Tp₀
  have X := X₀.keeps st
  have Tp := Tp₀.keeps st
  have hPL : ∀ p ∈ tl, s.heap.get? p.1 = some p.2 ∧ p.1 ≠ L := hP
  have GK : GOK dp un gd env h₀ s L tl g := ⟨st, B, fun a o e => G a o (hP _ e).1 (by simp), fun b o e _ => G b o e (by simp), Heap.UpToSlots.of_keeps fun b o e => G b o e (by simp)⟩
  refine byNo fun hno => ?_
  obtain ⟨o1, o2, o3, rfl, k1, k2, k3⟩ := CellsAre.three Y
  refine hno ?_
  clear hno
  (try dsimp only [List.cons_append, List.nil_append, List.append_nil] at N)
  replace k1 : o1.data = .cell none := k1
  replace k2 : o2.data = .cell none := k2
  replace k3 : o3.data = .cell (some (.ref bl)) := k3
  clear Y
  refine byNo fun hno => ?_
  obtain ⟨is, hui, hil, hisl⟩ := T.up i hi
  obtain ⟨js, huj, hjl, hjsl⟩ := T.up j hj
  refine hno ?_
  clear hno
  have hes := T.small
  have hB : At g bl (listOf bs.toArray nb) := GK.2.2.1 _ _ hb
  have hEg := hE.mono GK.2.2.1
  have hBl : g.IsList bl bs.toArray := isListOf hB
  have hTl : g.IsList tyl (ts.map fun p => Value.ref p.1).toArray := isListOf (GK.2.2.1 _ _ ht)
  refine byNo fun hno => ?_
  obtain ⟨qi, hqi⟩ := T.get hi
  obtain ⟨qj, hqj⟩ := T.get hj
  refine hno ?_
  clear hno
  have hii : (ts.map fun p => Value.ref p.1)[((i : Nat) : Int).toNat]? = some (.ref qi.1) := by simp [hqi]
  have hjj : (ts.map fun p => Value.ref p.1)[((j : Nat) : Int).toNat]? = some (.ref qj.1) := by simp [hqj]
  refine byNo fun hno => ?_
  obtain ⟨c1, y1, z1, n1, m1⟩ := (T.mono GK.2.2.1).two hqi hui hil
  obtain ⟨c2, y2, z2, n2, m2⟩ := (T.mono GK.2.2.1).two hqj huj hjl
  refine hno ?_
  clear hno
  have hij : isDesc (chainOf ts is) qj.2 = decide (j ∈ is) := T.desc hqj hisl
  have hji : isDesc (chainOf ts js) qi.2 = decide (i ∈ js) := T.desc hqi hjsl
  replace ha := ha is hui
  replace hb2 := hb2 js huj
  rw [decide_eq_false ha] at hij
  rw [decide_eq_true hb2] at hji
  k_with_none
  (try k_unmd); (try dsimp only); (try k_fold)
  focus
    iterate 15 ((try dsimp only); walk1)
    ((try dsimp only); refine above_use (by assumption) (by assumption) (by assumption) (by assumption) (by assumption) rfl rfl (by k_search 2) (by k_search 2) (by assumption) (by assumption) (by assumption) (by omega) (by omega) (by omega) ?_; (intro _ _ _ _ _ _ _ _ hi; (have hil := IntsAre.length hi); (try simp only [List.length_map] at hil); revert hi hil; intro _ _))
    ((try dsimp only); first | (refine in_t (by first | exact Heap.IsList.at (by assumption) (fun o e => Fr.keep (by assumption) _ o e) | exact isListOf (News.get (by assumption) (by k_search 3))) (by assumption) (by assumption) ?_) | (refine in_f (by first | exact Heap.IsList.at (by assumption) (fun o e => Fr.keep (by assumption) _ o e) | exact isListOf (News.get (by assumption) (by k_search 3))) (by assumption) (by assumption) ?_) | (refine in_nats (by first | exact Heap.IsList.at (by assumption) (fun o e => Fr.keep (by assumption) _ o e) | exact isListOf (News.get (by assumption) (by k_search 3))) (by assumption) ?_))
    iterate 12 ((try dsimp only); walk1)
    ((try dsimp only); refine above_use (by assumption) (by assumption) (by assumption) (by assumption) (by assumption) rfl rfl (by k_search 2) (by k_search 2) (by assumption) (by assumption) (by assumption) (by omega) (by omega) (by omega) ?_; (intro _ _ _ _ _ _ _ _ hi; (have hil := IntsAre.length hi); (try simp only [List.length_map] at hil); revert hi hil; intro _ _))
    ((try dsimp only); first | (refine in_t (by first | exact Heap.IsList.at (by assumption) (fun o e => Fr.keep (by assumption) _ o e) | exact isListOf (News.get (by assumption) (by k_search 3))) (by assumption) (by assumption) ?_) | (refine in_f (by first | exact Heap.IsList.at (by assumption) (fun o e => Fr.keep (by assumption) _ o e) | exact isListOf (News.get (by assumption) (by k_search 3))) (by assumption) (by assumption) ?_) | (refine in_nats (by first | exact Heap.IsList.at (by assumption) (fun o e => Fr.keep (by assumption) _ o e) | exact isListOf (News.get (by assumption) (by k_search 3))) (by assumption) ?_))
    iterate 27 ((try dsimp only); walk1)
    ((try dsimp only); refine wpAny_Try_except ?_)
    iterate 9 ((try dsimp only); walk1)
    ((try dsimp only); refine item_at (by first | exact Heap.IsList.at (by assumption) (fun o e => Fr.keep (by assumption) _ o e) | exact isListOf (News.get (by assumption) (by k_search 3))) (by omega) (by omega) (by assumption) ?_)
    iterate 4 ((try dsimp only); walk1)
    ((try dsimp only); refine item_at (by first | exact Heap.IsList.at (by assumption) (fun o e => Fr.keep (by assumption) _ o e) | exact isListOf (News.get (by assumption) (by k_search 3))) (by omega) (by omega) (by assumption) ?_)
    iterate 4 ((try dsimp only); walk1)
    ((try dsimp only); first | (refine way_up (by assumption) (by assumption) (by assumption) (by assumption) (by assumption) rfl rfl (by k_search 2) (by k_search 2) (by assumption) (by assumption) (by assumption) (by assumption) (by assumption) (by assumption) (by assumption) (by assumption) (by assumption) (by assumption) (by assumption) ?_; (intro _ _ _ _ _)) | (refine way_down (by assumption) (by assumption) (by assumption) (by assumption) (by assumption) rfl rfl (by k_search 2) (by k_search 2) (by assumption) (by assumption) (by assumption) (by assumption) (by assumption) (by assumption) (by assumption) (by assumption) (by assumption) (by assumption) (by assumption) (by assumption) ?_; (intro _ _ _ _ _)) | (refine way_no (by assumption) (by assumption) (by assumption) (by assumption) (by assumption) rfl rfl (by k_search 2) (by k_search 2) (by assumption) (by assumption) (by assumption) (by assumption) (by assumption) (by assumption) (by assumption) (by assumption) (by assumption) (by assumption) (by assumption) (by assumption) ?_; (intro _ _ _ _ _ _ _)))
    iterate 14 ((try dsimp only); walk1)
    ((try dsimp only); refine wpAny_Try_except ?_)
    iterate 10 ((try dsimp only); walk1)
    ((try dsimp only); refine item_at (by first | exact Heap.IsList.at (by assumption) (fun o e => Fr.keep (by assumption) _ o e) | exact isListOf (News.get (by assumption) (by k_search 3))) (by omega) (by omega) (by assumption) ?_)
    iterate 4 ((try dsimp only); walk1)
    ((try dsimp only); refine item_at (by first | exact Heap.IsList.at (by assumption) (fun o e => Fr.keep (by assumption) _ o e) | exact isListOf (News.get (by assumption) (by k_search 3))) (by omega) (by omega) (by assumption) ?_)
    iterate 4 ((try dsimp only); walk1)
    ((try dsimp only); first | (refine view_ok (by assumption) (by assumption) (by assumption) (by assumption) (by assumption) rfl rfl (by k_search 2) (by k_search 2) (by assumption) (by assumption) (by assumption) (by assumption) (by assumption) (by assumption) ?_; (intro _ _ _ _)) | (refine view_no (by assumption) (by assumption) (by assumption) (by assumption) (by assumption) rfl rfl (by k_search 2) (by k_search 2) (by assumption) (by assumption) (by assumption) (by assumption) (by assumption) (by assumption) ?_; (intro _ _ _ _ _ _ _ _)))
  all_goals (try dsimp only)
  refine caughtX (C := 70) (x := Str.ofString "AdaRaise") (by assumption) (by assumption) (by assumption) B X₀ (topRead_of Tp₀) rfl (exc70 w) (ns70 w) ?_
  intro g₂ h₂ oe vs tk₂ F₂ N₂ Gr hc hdc hda
  have GK₂ := GK.next (A₀ := topA dp un gd env []) Gr hfL hPL
  have X₂ := X₀.keeps GK₂.1
  have Tp₂ := Tp₀.keeps GK₂.1
  clear B X Tp
  focus
    iterate 6 ((try dsimp only); walk1)
    ((try dsimp only); refine raise_word (by assumption) (by assumption) (by assumption) (by assumption) (by assumption) (by assumption) (by assumption) rfl ?_)
    iterate 3 ((try dsimp only); walk1)
    ((try dsimp only); first | refine fault_line (by assumption) (by assumption) (by assumption) (by assumption) (by assumption) (by assumption) (by assumption) rfl ?_ | refine raise_line (by assumption) (by assumption) (by assumption) (by assumption) (by assumption) (by assumption) (by assumption) rfl ?_)
    iterate 5 ((try dsimp only); walk1)
  all_goals (try dsimp only)
  refine name_off (by assumption) (by assumption) rfl rfl ?_
  intro h₃ v₃ tk₃ F₃ N₃
  focus
    iterate 31 ((try dsimp only); walk1)
    (k_unfold; (try dsimp only))
  all_goals (try dsimp only)
  exact GOK.done GK₂ (by assumption) News.nil ⟨rfl, rfl⟩

theorem pair_no (w : World) (mean mg mb) (L : Addr) (tl : List (Addr × Obj)) (ts : List (Addr × TF)) (es : List BE) (dxs vxs : List PySem.Str) (bl tyl : Addr) (bs : List Value) (nb nt : Nat) (i j : Nat) (t1 t2 t3 : Tok) (ln : Int)
    (T : TysOK w (InL tl) ts es dxs vxs) (hE : EntsR w (InL tl) bs es) (hF : FixR w (InL tl) bs (dxs ++ vxs)) (hb : InL tl bl (listOf bs.toArray nb)) (ht : InL tl tyl (listOf (ts.map fun p => Value.ref p.1).toArray nt)) (hi : i < es.length) (hj : j < es.length) (hd : (dxs ++ vxs).length ≤ 10) (ha : ∀ is, UpR es (i : Int) is → ¬ j ∈ is) (hb2 : ∀ js, UpR es (j : Int) js → ¬ i ∈ js) :
    SpecD L w mean mg mb 249 [.ref bl, .ref tyl, .int (i : Int) t1, .int (j : Int) t2, .int ln t3] 120 9000 (fun h => ∀ p ∈ tl, At h p.1 p.2 ∧ p.1 ≠ L) (fun r new => r = .bool true ∧ new = []) := by
  refine spec_enterDC [(Str.ofString "book", .ref bl), (Str.ofString "types", .ref tyl), (Str.ofString "one", .int (i : Int) t1), (Str.ofString "other", .int (j : Int) t2), (Str.ofString "line", .int ln t3)] (by k_is) (by k_is) (fun _ => BindsTo.of_eq rfl) ?K (by decide) rfl rfl rfl ?_
  case K =>
    intro n x hx
    simp only [List.mem_cons, List.not_mem_nil, or_false] at hx
    rcases hx with rfl | rfl | rfl | rfl | rfl <;> first | exact .inl rfl | exact .inr ⟨rfl, rfl⟩
  intro dp un gd env h₀ g L' h₁ s tk₀ cells hd hu hP G hfL st F N Y B X₀ Tp₀
  have X := X₀.keeps st
  have Tp := Tp₀.keeps st
  have hPL : ∀ p ∈ tl, s.heap.get? p.1 = some p.2 ∧ p.1 ≠ L := hP
  have GK : GOK dp un gd env h₀ s L tl g := ⟨st, B, fun a o e => G a o (hP _ e).1 (by simp), fun b o e _ => G b o e (by simp), Heap.UpToSlots.of_keeps fun b o e => G b o e (by simp)⟩
  refine byNo fun hno => ?_
  obtain ⟨o1, o2, o3, rfl, k1, k2, k3⟩ := CellsAre.three Y
  refine hno ?_
  clear hno
  (try dsimp only [List.cons_append, List.nil_append, List.append_nil] at N)
  replace k1 : o1.data = .cell none := k1
  replace k2 : o2.data = .cell none := k2
  replace k3 : o3.data = .cell (some (.ref bl)) := k3
  clear Y
  refine byNo fun hno => ?_
  obtain ⟨is, hui, hil, hisl⟩ := T.up i hi
  obtain ⟨js, huj, hjl, hjsl⟩ := T.up j hj
  refine hno ?_
  clear hno
  have hes := T.small
  have hB : At g bl (listOf bs.toArray nb) := GK.2.2.1 _ _ hb
  have hEg := hE.mono GK.2.2.1
  have hBl : g.IsList bl bs.toArray := isListOf hB
  have hTl : g.IsList tyl (ts.map fun p => Value.ref p.1).toArray := isListOf (GK.2.2.1 _ _ ht)
  refine byNo fun hno => ?_
  obtain ⟨qi, hqi⟩ := T.get hi
  obtain ⟨qj, hqj⟩ := T.get hj
  refine hno ?_
  clear hno
  have hii : (ts.map fun p => Value.ref p.1)[((i : Nat) : Int).toNat]? = some (.ref qi.1) := by simp [hqi]
  have hjj : (ts.map fun p => Value.ref p.1)[((j : Nat) : Int).toNat]? = some (.ref qj.1) := by simp [hqj]
  refine byNo fun hno => ?_
  obtain ⟨c1, y1, z1, n1, m1⟩ := (T.mono GK.2.2.1).two hqi hui hil
  obtain ⟨c2, y2, z2, n2, m2⟩ := (T.mono GK.2.2.1).two hqj huj hjl
  refine hno ?_
  clear hno
  have hij : isDesc (chainOf ts is) qj.2 = decide (j ∈ is) := T.desc hqj hisl
  have hji : isDesc (chainOf ts js) qi.2 = decide (i ∈ js) := T.desc hqi hjsl
  replace ha := ha is hui
  replace hb2 := hb2 js huj
  rw [decide_eq_false ha] at hij
  rw [decide_eq_false hb2] at hji
  k_with_none
  (try k_unmd); (try dsimp only); (try k_fold)
  focus
    iterate 15 ((try dsimp only); walk1)
    ((try dsimp only); refine above_use (by assumption) (by assumption) (by assumption) (by assumption) (by assumption) rfl rfl (by k_search 2) (by k_search 2) (by assumption) (by assumption) (by assumption) (by omega) (by omega) (by omega) ?_; (intro _ _ _ _ _ _ _ _ hi; (have hil := IntsAre.length hi); (try simp only [List.length_map] at hil); revert hi hil; intro _ _))
    ((try dsimp only); first | (refine in_t (by first | exact Heap.IsList.at (by assumption) (fun o e => Fr.keep (by assumption) _ o e) | exact isListOf (News.get (by assumption) (by k_search 3))) (by assumption) (by assumption) ?_) | (refine in_f (by first | exact Heap.IsList.at (by assumption) (fun o e => Fr.keep (by assumption) _ o e) | exact isListOf (News.get (by assumption) (by k_search 3))) (by assumption) (by assumption) ?_) | (refine in_nats (by first | exact Heap.IsList.at (by assumption) (fun o e => Fr.keep (by assumption) _ o e) | exact isListOf (News.get (by assumption) (by k_search 3))) (by assumption) ?_))
    iterate 12 ((try dsimp only); walk1)
    ((try dsimp only); refine above_use (by assumption) (by assumption) (by assumption) (by assumption) (by assumption) rfl rfl (by k_search 2) (by k_search 2) (by assumption) (by assumption) (by assumption) (by omega) (by omega) (by omega) ?_; (intro _ _ _ _ _ _ _ _ hi; (have hil := IntsAre.length hi); (try simp only [List.length_map] at hil); revert hi hil; intro _ _))
    ((try dsimp only); first | (refine in_t (by first | exact Heap.IsList.at (by assumption) (fun o e => Fr.keep (by assumption) _ o e) | exact isListOf (News.get (by assumption) (by k_search 3))) (by assumption) (by assumption) ?_) | (refine in_f (by first | exact Heap.IsList.at (by assumption) (fun o e => Fr.keep (by assumption) _ o e) | exact isListOf (News.get (by assumption) (by k_search 3))) (by assumption) (by assumption) ?_) | (refine in_nats (by first | exact Heap.IsList.at (by assumption) (fun o e => Fr.keep (by assumption) _ o e) | exact isListOf (News.get (by assumption) (by k_search 3))) (by assumption) ?_))
    iterate 27 ((try dsimp only); walk1)
    ((try dsimp only); refine wpAny_Try_except ?_)
    iterate 9 ((try dsimp only); walk1)
    ((try dsimp only); refine item_at (by first | exact Heap.IsList.at (by assumption) (fun o e => Fr.keep (by assumption) _ o e) | exact isListOf (News.get (by assumption) (by k_search 3))) (by omega) (by omega) (by assumption) ?_)
    iterate 4 ((try dsimp only); walk1)
    ((try dsimp only); refine item_at (by first | exact Heap.IsList.at (by assumption) (fun o e => Fr.keep (by assumption) _ o e) | exact isListOf (News.get (by assumption) (by k_search 3))) (by omega) (by omega) (by assumption) ?_)
    iterate 4 ((try dsimp only); walk1)
    ((try dsimp only); first | (refine way_up (by assumption) (by assumption) (by assumption) (by assumption) (by assumption) rfl rfl (by k_search 2) (by k_search 2) (by assumption) (by assumption) (by assumption) (by assumption) (by assumption) (by assumption) (by assumption) (by assumption) (by assumption) (by assumption) (by assumption) ?_; (intro _ _ _ _ _)) | (refine way_down (by assumption) (by assumption) (by assumption) (by assumption) (by assumption) rfl rfl (by k_search 2) (by k_search 2) (by assumption) (by assumption) (by assumption) (by assumption) (by assumption) (by assumption) (by assumption) (by assumption) (by assumption) (by assumption) (by assumption) (by assumption) ?_; (intro _ _ _ _ _)) | (refine way_no (by assumption) (by assumption) (by assumption) (by assumption) (by assumption) rfl rfl (by k_search 2) (by k_search 2) (by assumption) (by assumption) (by assumption) (by assumption) (by assumption) (by assumption) (by assumption) (by assumption) (by assumption) (by assumption) (by assumption) (by assumption) ?_; (intro _ _ _ _ _ _ _)))
  all_goals (try dsimp only)
  refine caughtX (C := 51) (x := Str.ofString "CheckFault") (by assumption) (by assumption) (by assumption) B X₀ (topRead_of Tp₀) rfl (exc51 w) (ns51 w) ?_
  intro g₂ h₂ oe vs tk₂ F₂ N₂ Gr hc hdc hda
  have GK₂ := GK.next (A₀ := topA dp un gd env []) Gr hfL hPL
  have X₂ := X₀.keeps GK₂.1
  have Tp₂ := Tp₀.keeps GK₂.1
  have B₂ := GK₂.2.1
  have hTl₂ : g₂.IsList tyl (ts.map fun p => Value.ref p.1).toArray := isListOf (GK₂.2.2.1 _ _ ht)
  refine byNo fun hno => ?_
  obtain ⟨c1', y1', _, _, _⟩ := (T.mono GK₂.2.2.1).two hqi hui hil
  obtain ⟨c2', y2', _, _, _⟩ := (T.mono GK₂.2.2.1).two hqj huj hjl
  refine hno ?_
  clear hno
  clear B X Tp GK c1 y1 c2 y2 hB hBl hTl hEg
  focus
    iterate 4 ((try dsimp only); walk1)
    ((try dsimp only); first | refine fault_line (by assumption) (by assumption) (by assumption) (by assumption) (by assumption) (by assumption) (by assumption) rfl ?_ | refine raise_line (by assumption) (by assumption) (by assumption) (by assumption) (by assumption) (by assumption) (by assumption) rfl ?_)
    iterate 3 ((try dsimp only); walk1)
  all_goals (try dsimp only)
  refine name_off (by assumption) (by assumption) rfl rfl ?_
  intro h₃ v₃ tk₃ F₃ N₃
  focus
    focus (iterate 11 ((try dsimp only); walk1))
    focus (k_unfold; (try dsimp only))
    rotate_left
    focus (iterate 2 ((try dsimp only); walk1))
    focus ((try dsimp only); refine wpAny_Try_except ?_)
    focus (iterate 10 ((try dsimp only); walk1))
    focus ((try dsimp only); refine item_at (by first | exact Heap.IsList.at (by assumption) (fun o e => Fr.keep (by assumption) _ o e) | exact isListOf (News.get (by assumption) (by k_search 3))) (by omega) (by omega) (by assumption) ?_)
    focus (iterate 4 ((try dsimp only); walk1))
    focus ((try dsimp only); refine item_at (by first | exact Heap.IsList.at (by assumption) (fun o e => Fr.keep (by assumption) _ o e) | exact isListOf (News.get (by assumption) (by k_search 3))) (by omega) (by omega) (by assumption) ?_)
    focus (iterate 4 ((try dsimp only); walk1))
    focus ((try dsimp only); first | (refine view_ok (by assumption) (by assumption) (by assumption) (by assumption) (by assumption) rfl rfl (by k_search 2) (by k_search 2) (by assumption) (by assumption) (by assumption) (by assumption) (by assumption) (by assumption) ?_; (intro _ _ _ _)) | (refine view_no (by assumption) (by assumption) (by assumption) (by assumption) (by assumption) rfl rfl (by k_search 2) (by k_search 2) (by assumption) (by assumption) (by assumption) (by assumption) (by assumption) (by assumption) ?_; (intro _ _ _ _ _ _ _ _)))
    rotate_left
  all_goals first | exact absurd rfl (show ln ≠ ln by assumption) | skip
  all_goals (try dsimp only)
  refine caughtX (C := 70) (x := Str.ofString "AdaRaise") (by assumption) (by assumption) (by assumption) B₂ X₀ (topRead_of Tp₀) rfl (exc70 w) (ns70 w) ?_
  intro g₃ h₄ oe₂ vs₂ tk₄ F₄ N₄ Gr₂ hc₂ hdc₂ hda₂
  have GK₃ := GK₂.next (A₀ := topA dp un gd env []) Gr₂ hfL hPL
  have X₃ := X₀.keeps GK₃.1
  have Tp₃ := Tp₀.keeps GK₃.1
  clear B₂ X₂ Tp₂
  focus
    iterate 6 ((try dsimp only); walk1)
    ((try dsimp only); refine raise_word (by assumption) (by assumption) (by assumption) (by assumption) (by assumption) (by assumption) (by assumption) rfl ?_)
    iterate 3 ((try dsimp only); walk1)
    ((try dsimp only); first | refine fault_line (by assumption) (by assumption) (by assumption) (by assumption) (by assumption) (by assumption) (by assumption) rfl ?_ | refine raise_line (by assumption) (by assumption) (by assumption) (by assumption) (by assumption) (by assumption) (by assumption) rfl ?_)
    iterate 5 ((try dsimp only); walk1)
  all_goals (try dsimp only)
  refine name_off (by assumption) (by assumption) rfl rfl ?_
  intro h₅ v₅ tk₅ F₅ N₅
  focus
    iterate 31 ((try dsimp only); walk1)
    (k_unfold; (try dsimp only))
  all_goals (try dsimp only)
  exact GOK.done GK₃ (by assumption) News.nil ⟨rfl, rfl⟩
end
section
open PySem PySem.W PyProof.Rows PySem.Calls PySem.Spec PySem.SeqAt PyProof.Rows.LCg
set_option maxRecDepth 100000
set_option maxHeartbeats 1000000
noncomputable abbrev LET : PySem.Str := Str.ofString "abcdefghijklmnopqrstuvwxyz"
noncomputable def letter (i : Int) : PySem.Str := Txt.item LET i
theorem let_len : LET.length = 26 := by decide +kernel
theorem letter_at {prog : Program} {w : World} {A : Around} {E : Value → Shared → Prop} {s : Shared} {value slice : PySem.Expr} {t u : Tok} {i : Int} {Q : Value → Shared → Prop} (h0 : 0 ≤ i) (h1 : i < 26) (h : ∀ t tk, Q (.str (letter i) t) { s with toks := tk })
    (hs : subscripted slice false (.str LET t) (.int i u) = operate [.str LET t, .int i u] (getItem (.str LET t) (.int i u)) := by with_unfolding_all rfl)
    (ht : ∀ r, letTemporaryGo value (.str LET t) r = pure () := by intro _; with_unfolding_all rfl) :
    wpAny (model prog w) A (subscriptTail value slice (.str LET t) (.int i u)) Q E s :=
  item_str (fitsSsize_of (N := 9223372036854775808) (by omega) (by omega) (Int.le_refl _)) (by rw [let_len]; omega) (by rw [let_len]; omega) (fun _ => h _ _) hs ht
theorem letter_mod {prog : Program} {w : World} {A : Around} {E : Value → Shared → Prop} {s : Shared} {value slice : PySem.Expr} {t u : Tok} {n : Nat} {Q : Value → Shared → Prop} (h : ∀ t tk, Q (.str (letter (((n : Nat) : Int).fmod 26)) t) { s with toks := tk })
    (hs : ∀ i, subscripted slice false (.str LET t) (.int i u) = operate [.str LET t, .int i u] (getItem (.str LET t) (.int i u)) := by intro _; with_unfolding_all rfl)
    (ht : ∀ r, letTemporaryGo value (.str LET t) r = pure () := by intro _; with_unfolding_all rfl) :
    wpAny (model prog w) A (subscriptTail value slice (.str LET t) (.int (((n : Nat) : Int).fmod 26) u)) Q E s :=
  letter_at (by rw [Int.fmod_eq_emod_of_nonneg _ (by omega)]; omega) (by rw [Int.fmod_eq_emod_of_nonneg _ (by omega)]; omega) h (hs _) ht
noncomputable def BagO (w : World) (scr : Addr) (lim : Int) (ob : Obj) : Prop := ∃ t tk, 0 ≤ t ∧ t ≤ lim ∧ ob.IsDictOf (SK w) (bagKvs scr t tk)
noncomputable def ScrR (R : Addr → Obj → Prop) (scr : Addr) : Prop := ∃ vs n ns, R scr (listOf vs.toArray n) ∧ IntsAre vs ns ∧ ns.length ≤ 60
theorem ScrR.mono {R R' : Addr → Obj → Prop} {scr : Addr} (h : ScrR R scr) (k : ∀ a o, R a o → R' a o) : ScrR R' scr := by
  obtain ⟨vs, n, ns, h1, h2, h3⟩ := h
  exact ⟨vs, n, ns, k _ _ h1, h2, h3⟩
theorem rollV_pos {ns : List Int} {t sides : Int} (hs : 0 < sides) : 0 ≤ rollV ns t sides ∧ rollV ns t sides < sides := by
  unfold rollV
  split
  · exact ⟨Int.emod_nonneg _ (by omega), Int.emod_lt_of_pos _ hs⟩
  · exact ⟨Int.emod_nonneg _ (by omega), Int.emod_lt_of_pos _ hs⟩
section
variable {w : World} {mean : ExcName → Option Value} {mg mb : PySem.Str → Option Value} {dp un : Nat} {gd : Option (List Code)} {env : Env} {outer : List Env} {A₀ : Around} {base h₀ : Heap} {L : Addr} {m : PySem.Str → Option Value} {s : Shared} {Q : Value → Shared → Prop} {E : Value → Shared → Prop} {news : List (Addr × Obj)}
theorem roll_use {bag scr : Addr} {ob : Obj} {lim sides : Int} {tk2 : Tok} {gg : Obj → List (Addr × Obj)} (B : Below A₀ base outer h₀) (F : Fr h₀ L s.heap m) (X : (hd.heap_1 w.params).In h₀) (N : News h₀ L s.heap news) (T : TP mean mg mb h₀)
    (hf : env.frame = some L) (hk : env.scope.kind = .function) (hd : dp + 10 < recursionLimit) (hu : un + 100 < cLine) (U : UpdF bag ob news gg) (hb : BagO w scr lim ob) (hl : lim < 1000) (hS : ScrR (At s.heap) scr) (hne : scr ≠ bag) (h0 : 0 < sides) (h1 : sides < 100000)
    (ret : ∀ v t ob' h' tk', 0 ≤ v ∧ v < sides → BagO w scr (lim + 1) ob' → Fr h₀ L h' m → News h₀ L h' (gg ob') → Q (.int v t) { s with heap := h', toks := tk' }) :
    wpAny (model PySem.Challenge.rw_pb0010_01.row.prog w) (topA dp un gd env outer) (call (.ref 211) [.ref bag, .int sides tk2]) Q E s := by
  refine byNo fun hno => ?_
  obtain ⟨t, tk, t0, t1, hd1⟩ := hb
  obtain ⟨vs, n, ns, e, hi, hl60⟩ := hS
  refine hno ?_
  clear hno
  refine Spec.use1 (roll_spec w mean mg mb bag scr ob t sides tk tk2 vs ns hd1 hi t0 (by omega) hl60 h0 h1 hne) B F X N T U hf hk hd hu (isListOf e) ?_
  rintro r o' new h' tk' F' N' - - ⟨rfl, ⟨tv, rfl⟩, ob', tk3, e2, hd2⟩
  refine byNo fun hno => ?_
  obtain ⟨⟨-, rfl⟩, -⟩ := (List.cons.inj e2).imp Prod.mk.inj id
  refine hno ?_
  clear hno
  exact ret _ _ _ h' tk' (rollV_pos h0) ⟨t + 1, tk3, by omega, by omega, hd2⟩ F' N'
end
end
set_option maxHeartbeats 1000000

noncomputable def RowPost (w : World) (bag used scr : Addr) (lim : Int) (us : List Value) (xs : List PySem.Str) (r : Value) (upd new : List (Addr × Obj)) : Prop :=
  ∃ x t ob' n', upd = [(bag, ob'), (used, listOf (us ++ [Value.str x t]).toArray n')] ∧ BagO w scr (lim + 2) ob' ∧ RowV (InL new) r x ∧ (xs = [] → x = letter 0)
theorem BagO.more {w : World} {scr : Addr} {lim lim' : Int} {ob : Obj} (h : BagO w scr lim ob) (k : lim ≤ lim') : BagO w scr lim' ob := by
  obtain ⟨t, tk, h0, h1, h2⟩ := h
  exact ⟨t, tk, h0, by omega, h2⟩
theorem rowPost {w : World} {bag used scr : Addr} {lim lim' : Int} {us : List Value} {xs : List PySem.Str} {x : PySem.Str} {t : Tok} {ob' : Obj} {a : Addr} {n n' : Nat} {v2 v3 : Value} {tl : List (Addr × Obj)} (hb : BagO w scr lim' ob') (hl : lim' ≤ lim + 2) (hx : xs = [] → x = letter 0) :
    RowPost w bag used scr lim us xs (.ref a) [(bag, ob'), (used, listOf (us ++ [Value.str x t]).toArray n')] ((a, rowOb x t v2 v3 n) :: tl) :=
  ⟨x, t, ob', n', rfl, hb.more hl, ⟨a, t, v2, v3, n, rfl, List.Mem.head _⟩, hx⟩
theorem row_end {w : World} {s : Shared} {g h' : Heap} {L' D bag used scr : Addr} {m' : FMap} {all : List (Addr × Obj)} {lim lim' : Int} {us : List Value} {xs : List PySem.Str} {x : PySem.Str} {t : Tok} {ob ob' : Obj} {n k n' tk : Nat} {v2 v3 : Value} (F : Fr g L' h' m') (N : News g L' h' all) (h1 : (D, rowOb x t v2 v3 k) ∈ all) (h2 : (bag, ob') ∈ all) (h3 : (used, listOf (us ++ [Value.str x t]).toArray n') ∈ all)
    (ne : @Ne Nat D bag ∧ @Ne Nat D used) (hb : BagO w scr lim' ob') (hl : lim' ≤ lim + 2) (hx : xs = [] → x = letter 0) : Done s g L' [(bag, ob), (used, listOf us.toArray n)] (RowPost w bag used scr lim us xs) (.ref D) { s with heap := h', toks := tk } := by
  refine ⟨h', tk, m', [(bag, ob'), (used, listOf (us ++ [Value.str x t]).toArray n')], [(D, rowOb x t v2 v3 k)], rfl, F, fun p hp => ?_, fun p hp => ?_, rfl, fun p hp q hq => ?_, rowPost hb hl hx⟩
  · rcases List.mem_cons.mp hp with rfl | hp
    · exact N _ h2
    · rw [List.mem_singleton.mp hp]; exact N _ h3
  · rw [List.mem_singleton.mp hp]; exact N _ h1
  · rw [List.mem_singleton.mp hp]
    rcases List.mem_cons.mp hq with rfl | hq
    · exact ne.1
    · rw [List.mem_singleton.mp hq]; exact ne.2
theorem letter_first {us : List Value} {xs : List PySem.Str} (h : us.length = xs.length) : xs = [] → letter (((us.length : Nat) : Int).fmod 26) = letter 0 := fun e => by
  rw [h, e]; rfl
theorem not_empty {us : List Value} (h : us.isEmpty = false) : 0 < us.length := by
  cases us with
  | nil => exact absurd h (by decide)
  | cons a r => exact Nat.succ_pos _
theorem item_strs {prog : Program} {w : World} {A : Around} {E : Value → Shared → Prop} {s : Shared} {l : Addr} {value slice : PySem.Expr} {vs : List Value} {xs : List PySem.Str} {k : Int} {u : Tok} {Q : Value → Shared → Prop} (hl : s.heap.IsList l vs.toArray) (hs : StrsAre vs xs) (hv : 0 ≤ k ∧ k < ((vs.length : Nat) : Int)) (hz : vs.length ≤ 1000) (h : ∀ x t, Q (.str x t) s)
    (hsu : subscripted slice false (.ref l) (.int k u) = operate [.ref l, .int k u] (getItem (.ref l) (.int k u)) := by with_unfolding_all rfl) :
    wpAny (model prog w) A (subscriptTail value slice (.ref l) (.int k u)) Q E s := by
  have hlt : k.toNat < vs.length := by omega
  refine byNo fun hno => ?_
  obtain ⟨x, t, e, _⟩ := hs.item k.toNat _ (List.getElem?_eq_getElem hlt)
  refine hno ?_
  clear hno
  exact item_at hl hv.1 (by omega) ((List.getElem?_eq_getElem hlt).trans (congrArg some e)) (h x t) hsu
theorem subtype_use {w : World} {mean : ExcName → Option Value} {mg mb : PySem.Str → Option Value} {dp un : Nat} {gd : Option (List Code)} {env : Env} {outer : List Env} {A₀ : Around} {base h₀ : Heap} {L : Addr} {m : PySem.Str → Option Value} {s : Shared} {Q : Value → Shared → Prop} {E : Value → Shared → Prop} {news : List (Addr × Obj)} {t c : Value} (B : Below A₀ base outer h₀) (F : Fr h₀ L s.heap m) (X : (hd.heap_1 w.params).In h₀) (N : News h₀ L s.heap news) (T : TP mean mg mb h₀)
    (hf : env.frame = some L) (hk : env.scope.kind = .function) (hd : dp + 20 < recursionLimit) (hu : un + 1000 < cLine)
    (ret : ∀ x d o1 o2 h' tk', Fr h₀ L h' m → News h₀ L h' ((x, o1) :: (d, o2) :: news) → Off1 x news ∧ Off1 d news → Q (.ref x) { s with heap := h', toks := tk' }) :
    wpAny (model PySem.Challenge.rw_pb0010_01.row.prog w) (topA dp un gd env outer) (call (.ref 115) [t, c]) Q E s := by
  refine Spec.use0 (subtype_spec w mean mg mb t c) B F X N T hf hk hd hu trivial ?_
  rintro r new h' tk' F' N' hne - ⟨x, d, k1, k2, rfl, rfl⟩
  exact ret x d _ _ h' tk' F' N' ⟨off1_of fun q hq => hne q hq _ (.head _), off1_of fun q hq => hne q hq _ (.tail _ (.head _))⟩
section

theorem row_spec (w : World) (mean mg mb) (bag scr used : Addr) (whole : Value) (ob : Obj) (lim : Int) (us : List Value) (n : Nat) (xs : List PySem.Str) (hb : BagO w scr lim ob) (hl : lim + 10 < 1000) (hus : StrsAre us xs) (hz : xs.length ≤ 100) (n1 : @Ne Nat scr bag) (n2 : @Ne Nat scr used) (n3 : @Ne Nat bag used) :
    Spec w mean mg mb 218 [.ref bag, whole, .ref used] 40 3000 [(bag, ob), (used, listOf us.toArray n)] (fun h => ScrR (At h) scr) (RowPost w bag used scr lim us xs) := by
  refine spec_enter [(Str.ofString "bag", .ref bag), (Str.ofString "whole", whole), (Str.ofString "used", .ref used)] (by k_is) (by k_is) (fun _ => BindsTo.of_eq rfl) (locs rfl) rfl rfl rfl (by decide) ?_
  intro dp un gd env outer base g L' h₁ s tk₀ hd hu hP G F N B X Tp
  have hS : ScrR (At g) scr := by
    obtain ⟨vs, n, ns, e, r⟩ := hP
    refine ⟨vs, n, ns, G _ _ e ?_, r⟩
    simp only [adrs, List.map_cons, List.map_nil, List.mem_cons, List.not_mem_nil, or_false, not_or]
    exact ⟨n1, n2⟩
  clear hP
  have hul := hus.length
  k_with_none
  (try k_unmd); (try dsimp only); (try k_fold)
  focus
    focus (iterate 14 ((try dsimp only); walk1))
    focus ((try dsimp only); refine' roll_use ?B1 ?F1 ?X1 ?N1 ?T1 rfl rfl ?d1 ?u1 ?U1 ?b1 ?l1 ?S1 ?n1 ?s01 ?s11 ?_; (case B1 => assumption); (case F1 => assumption); (case X1 => assumption); (case N1 => assumption); (case T1 => assumption); (case d1 => k_search 2); (case u1 => k_search 2); (case U1 => k_updF); (case b1 => assumption); (case l1 => omega); (case S1 => exact ScrR.mono (by assumption) (fun a o e => Fr.keep (by assumption) a o e)); (case n1 => omega); (case s01 => first | omega | ((have := not_empty (by assumption)); omega)); (case s11 => omega); (intro _ _ _ _ _ _ _ _ N'; (try dsimp only [List.cons_append, List.nil_append] at N'); revert N'; intro _))
    focus (iterate 14 ((try dsimp only); walk1))
    focus ((try dsimp only); refine len_L (by first | exact Heap.IsList.at (by assumption) (fun o e => Fr.keep (by assumption) _ o e) | exact isListOf (News.get (by assumption) (by k_search 3))) (by k_search 4) ?_; (intro _ _))
    focus (iterate 2 ((try dsimp only); walk1))
    focus ((try dsimp only); first | (refine letter_at (by omega) (by omega) ?_; (intro _ _)) | (refine letter_mod ?_; (intro _ _)))
    focus (iterate 11 ((try dsimp only); walk1))
    focus ((try dsimp only); refine' append_L ?F2 ?N2 ?U2 ?z2 ?_; (case F2 => assumption); (case N2 => assumption); (case U2 => k_updF); (case z2 => k_search 4); (intro _ _ _ N'; (try dsimp only [List.cons_append, List.nil_append] at N'); revert N'; intro _))
    focus (iterate 15 ((try dsimp only); walk1))
    focus ((try dsimp only); refine subtype_use (by assumption) (by assumption) (by assumption) (by assumption) (by assumption) rfl rfl (by k_search 2) (by k_search 2) ?_; (intro _ _ _ _ _ _ _ _ off; (have ofa := off.1); (have ofb := off.2); clear off; revert ofa ofb; intro _ _))
    focus (iterate 4 ((try dsimp only); walk1))
    rotate_left
    focus (iterate 6 ((try dsimp only); walk1))
    focus ((try dsimp only); refine eq_empty (by first | exact Heap.IsList.at (by assumption) (fun o e => Fr.keep (by assumption) _ o e) | exact isListOf (News.get (by assumption) (by k_search 3))) (isListOf (News.get (by assumption) (by k_search 3))) (by k_search 2) ?_)
    focus (iterate 12 ((try dsimp only); walk1))
    focus ((try dsimp only); refine len_L (by first | exact Heap.IsList.at (by assumption) (fun o e => Fr.keep (by assumption) _ o e) | exact isListOf (News.get (by assumption) (by k_search 3))) (by k_search 4) ?_; (intro _ _))
    focus (iterate 2 ((try dsimp only); walk1))
    focus ((try dsimp only); first | (refine letter_at (by omega) (by omega) ?_; (intro _ _)) | (refine letter_mod ?_; (intro _ _)))
    focus (iterate 11 ((try dsimp only); walk1))
    focus ((try dsimp only); refine' append_L ?F3 ?N3 ?U3 ?z3 ?_; (case F3 => assumption); (case N3 => assumption); (case U3 => k_updF); (case z3 => k_search 4); (intro _ _ _ N'; (try dsimp only [List.cons_append, List.nil_append] at N'); revert N'; intro _))
    focus (iterate 15 ((try dsimp only); walk1))
    focus ((try dsimp only); refine subtype_use (by assumption) (by assumption) (by assumption) (by assumption) (by assumption) rfl rfl (by k_search 2) (by k_search 2) ?_; (intro _ _ _ _ _ _ _ _ off; (have ofa := off.1); (have ofb := off.2); clear off; revert ofa ofb; intro _ _))
    focus (iterate 4 ((try dsimp only); walk1))
    rotate_left
    focus (iterate 16 ((try dsimp only); walk1))
    focus ((try dsimp only); refine len_L (by first | exact Heap.IsList.at (by assumption) (fun o e => Fr.keep (by assumption) _ o e) | exact isListOf (News.get (by assumption) (by k_search 3))) (by k_search 4) ?_; (intro _ _))
    focus (iterate 2 ((try dsimp only); walk1))
    focus ((try dsimp only); refine' roll_use ?B4 ?F4 ?X4 ?N4 ?T4 rfl rfl ?d4 ?u4 ?U4 ?b4 ?l4 ?S4 ?n4 ?s04 ?s14 ?_; (case B4 => assumption); (case F4 => assumption); (case X4 => assumption); (case N4 => assumption); (case T4 => assumption); (case d4 => k_search 2); (case u4 => k_search 2); (case U4 => k_updF); (case b4 => assumption); (case l4 => omega); (case S4 => exact ScrR.mono (by assumption) (fun a o e => Fr.keep (by assumption) a o e)); (case n4 => omega); (case s04 => first | omega | ((have := not_empty (by assumption)); omega)); (case s14 => omega); (intro _ _ _ _ _ _ _ _ N'; (try dsimp only [List.cons_append, List.nil_append] at N'); revert N'; intro _))
    focus ((try dsimp only); refine item_strs (by first | exact Heap.IsList.at (by assumption) (fun o e => Fr.keep (by assumption) _ o e) | exact isListOf (News.get (by assumption) (by k_search 3))) (by assumption) (by assumption) (by omega) ?_; (intro _ _))
    focus (iterate 11 ((try dsimp only); walk1))
    focus ((try dsimp only); refine' append_L ?F5 ?N5 ?U5 ?z5 ?_; (case F5 => assumption); (case N5 => assumption); (case U5 => k_updF); (case z5 => k_search 4); (intro _ _ _ N'; (try dsimp only [List.cons_append, List.nil_append] at N'); revert N'; intro _))
    focus (iterate 15 ((try dsimp only); walk1))
    focus ((try dsimp only); refine subtype_use (by assumption) (by assumption) (by assumption) (by assumption) (by assumption) rfl rfl (by k_search 2) (by k_search 2) ?_; (intro _ _ _ _ _ _ _ _ off; (have ofa := off.1); (have ofb := off.2); clear off; revert ofa ofb; intro _ _))
    focus (iterate 4 ((try dsimp only); walk1))
    rotate_left
  all_goals (try dsimp only)
  · exact row_end (by assumption) (by assumption) (by k_search 3) (by k_search 3) (by k_search 3) ⟨by k_ne, by k_ne⟩ (by assumption) (by omega) (letter_first hul)
  · exact row_end (by assumption) (by assumption) (by k_search 3) (by k_search 3) (by k_search 3) ⟨by k_ne, by k_ne⟩ (by assumption) (by omega) (letter_first hul)
  · refine row_end (by assumption) (by assumption) (by k_search 3) (by k_search 3) (by k_search 3) ⟨by k_ne, by k_ne⟩ (by assumption) (by omega) (fun e => ?_)
    have := not_empty (by assumption)
    rw [hul, e] at this
    exact absurd this (by decide)
end
section
open PySem PySem.W PyProof.Rows PySem.Calls PySem.SeqAt PySem.Spec PyProof.Rows.LCg
set_option maxRecDepth 100000
set_option maxHeartbeats 1000000
theorem range_small {k : Int} (h0 : 0 ≤ k) (h1 : k ≤ 1000) : Builtin.Range.small 0 k 1 = true := small_one (by decide) (by decide) (by omega) (by omega)
theorem range_size {k : Int} (h0 : 0 ≤ k) : Builtin.Range.rangeSize 0 k 1 = ((k.toNat : Nat) : Int) := by
  rw [rangeSize_one]; split <;> omega
section
variable {prog : Program} {w : World} {A : Around} {E : Value → Shared → Prop} {s : Shared} {h₀ : Heap} {m : FMap} {env : Env} {news : List (Addr × Obj)} {target : PySem.Expr} {body : List Stmt} {Q : Flow → Shared → Prop}
theorem for_range {k : Int} {t : Tok} (J : Nat → FMap → List (Addr × Obj) → Prop) (h0 : 0 ≤ k) (h1 : k ≤ 1000) (hh : A.handled = none) (F : Fr h₀ env.locals s.heap m) (N : News h₀ env.locals s.heap news) (hJ : J 0 m news)
    (turn : ∀ (i : Nat) t m₁ news₁ h tk I oI, ((i : Nat) : Int) < k → J i m₁ news₁ → Fr h₀ env.locals h m₁ → News h₀ env.locals h ((I, oI) :: news₁) → (∀ p ∈ news₁, @Ne Nat p.1 I) →
      wpAny (model prog w) A (assign target env (.int ((i : Nat) : Int) t)) (fun _ s₄ => wpAny (model prog w) A (execs body env) (TurnEnd h₀ env.locals I oI (fun _ => True) (J (i + 1)) Q s) (notedBy (model prog w) A env (cameBackBy (model prog w) A env E)) s₄) (notedBy (model prog w) A env (cameBackBy (model prog w) A env E)) { s with heap := h, toks := tk })
    (done : ∀ m₁ news₁ h tk, J k.toNat m₁ news₁ → Fr h₀ env.locals h m₁ → News h₀ env.locals h news₁ → Q .next { s with heap := h, toks := tk })
    (ht : ∀ it v, letOwnedTupleGo target it v = pure () := by intro _ _; rfl) :
    wpAny (model prog w) A (call (.type "range") [.int k t]) (fun xv s₁ => wpAny (model prog w) A (pyIter xv) (fun it s₂ => codeAny (model prog w) A (.forLoop target it body [] env) (fun r s' => match r with | .ok f => Q f s' | .error e => cameBackBy (model prog w) A env E e s') s₂) E s₁) E s := by
  refine call_range_1 ?_
  refine wpAny_pyIter_range (IsRange.new _ _ _ _ _ _ _) (range_small h0 h1) ?_
  dsimp only
  have up : ∀ b o, s.heap.get? b = some o → (s.heap.push { cls := .type "range", data := .fields #[.int 0 s.toks, .int k t, .int 1 (s.toks + 1)] }).get? b = some o := fun b o e => Heap.get?_push_of_some _ e
  generalize s.heap.push { cls := .type "range", data := .fields #[.int 0 s.toks, .int k t, .int 1 (s.toks + 1)] } = H at *
  have FH := F.keeps up
  have NH := N.grown up
  refine loop_W (S := fun _ => True) (s₂ := { s with heap := H.push _, toks := _ }) J (range_walks hh 0 k.toNat) (fun i h st => ⟨_, st⟩) range_st (fun i v s' Q' E' st q => wpAny_of_eq (ht _ _) q) ?st
    (FH.keeps fun _ _ e => Heap.get?_push_of_some _ e) (NH.grown fun _ _ e => Heap.get?_push_of_some _ e) (Nat.ne_of_lt FH.ns.lt) (next_is_new FH) (fun p hp => Nat.ne_of_lt (Heap.lt_size (NH p hp).1)) trivial hJ ?_ ?_
  case st =>
    show IsRangeIter _ _ _ _ _
    rw [range_size h0]
    simpa using Heap.get?_push_size _ rfl
  · rintro i v m₁ news₁ h tk oI hi ⟨t', rfl⟩ hj _ F₁ N₁ off
    rw [Int.zero_add]
    exact turn i t' m₁ news₁ h tk _ oI (by omega) hj F₁ N₁ off
  · exact fun m₁ news₁ h tk hj F₁ N₁ => done m₁ news₁ h tk hj F₁ N₁
end
section
variable {prog : Program} {w : World} {A : Around} {E : Value → Shared → Prop} {s : Shared} {h₀ : Heap} {L : Addr} {m : FMap} {env : Env} {news : List (Addr × Obj)} {y : PySem.Str} {Q : Flow → Shared → Prop}
theorem comp_range {k : Int} {t : Tok} {elt : PySem.Expr} {x : PySem.Str} {scope : Scope} {cl : List (PySem.Str × Addr)} (J : Nat → List Value → List (Addr × Obj) → Prop) (h0 : 0 ≤ k) (h1 : k ≤ 1000) (hh : A.handled = none) (F : Fr h₀ L s.heap m) (N : News h₀ L s.heap news) (hJ : J 0 [] news)
    (step : ∀ (i : Nat) ys news v I oI C oC D m₂ h tk (E' : Value → Shared → Prop), ((i : Nat) : Int) < k → J i ys news → NsObj oC m₂ → m₂ x = some v → Fr h₀ L h m → News h₀ L h ((I, oI) :: (C, oC) :: (D, lst ys) :: news) → Off3 I C D news → ((@Ne Nat I C) ∧ (@Ne Nat I D) ∧ (@Ne Nat C D)) →
      wpAny (model prog w) A (eval elt (compEnvC scope cl C env)) (CompEnd h₀ L m { s with heap := h, toks := tk } I oI C oC D (lst ys) (fun _ => True) (fun y news' => J (i + 1) (ys ++ [y]) news')) E' { s with heap := h, toks := tk })
    (fin : ∀ ys news' D h tk, J k.toNat ys news' → Fr h₀ L h (fun z => if z = y then some (.ref D) else m z) → News h₀ L h ((D, lst ys) :: news') → Off1 D news' → Q .next { s with heap := h, toks := tk }) :
    wpAny (model prog w) A (call (.type "range") [.int k t]) (CompSrc prog w A h₀ L m env elt x scope cl (fun s₂ => FinA h₀ L m s₂ y Q)) E s := by
  refine call_range_1 ?_
  have up : ∀ b o, s.heap.get? b = some o → (s.heap.push { cls := .type "range", data := .fields #[.int 0 s.toks, .int k t, .int 1 (s.toks + 1)] }).get? b = some o := fun b o e => Heap.get?_push_of_some _ e
  refine CompSrc.range (n := k.toNat) hh (F.keeps up) (N.grown up) (IsRange.new _ _ _ _ _ _ _) (range_small h0 h1) (range_size h0) (by rw [sizeLine_eq]; omega) fun g => ?_
  refine compRest_inv (n := k.toNat) J ?_ ?_ _ 0 [] news (by simp) hJ
  · rintro i ys nw v I oI C oC D m₂ h tk E' hi hj hP hC hm F₂ N₂ off ne
    exact step i ys nw v I oI C oC D m₂ h tk E' (by omega) hj hC hm F₂ N₂ off ne
  · exact fun ys nw hj D h tk F₂ N₂ o1 => fin ys nw D h tk hj F₂ N₂ o1
end
noncomputable def setAll (m : FMap) : List (PySem.Str × Option Value) → FMap
  | [] => m
  | (x, v) :: r => fun y => if y = x then v else setAll m r y
theorem setAll_of {m m' : FMap} : ∀ xs : List PySem.Str, (∀ y, y ∉ xs → m' y = m y) → m' = setAll m (xs.map fun x => (x, m' x)) := fun xs h => by
  funext y
  have key : ∀ l : List PySem.Str, (y ∈ l → setAll m (l.map fun x => (x, m' x)) y = m' y) ∧ (y ∉ l → setAll m (l.map fun x => (x, m' x)) y = m y) := fun l => by
    induction l with
    | nil => exact ⟨fun z => (by cases z), fun _ => rfl⟩
    | cons a r ih =>
      constructor
      · intro hy
        show (if y = a then m' a else setAll m (r.map fun x => (x, m' x)) y) = m' y
        by_cases e : y = a
        · rw [if_pos e, e]
        · rw [if_neg e]
          exact ih.1 ((List.mem_cons.mp hy).resolve_left e)
      · intro hy
        show (if y = a then m' a else setAll m (r.map fun x => (x, m' x)) y) = m y
        rw [if_neg (show ¬ y = a from fun e => hy (by rw [e]; exact List.mem_cons_self))]
        exact ih.2 fun z => hy (List.mem_cons_of_mem _ z)
  by_cases hy : y ∈ xs
  · exact ((key xs).1 hy).symm
  · exact (h y hy).trans ((key xs).2 hy).symm
section
variable {w : World} {mean : ExcName → Option Value} {mg mb : PySem.Str → Option Value} {f : Addr} {args : List Value} {dep un₀ : Nat}
    {Pre : Heap → Prop} {Post : Value → List (Addr × Obj) → List (Addr × Obj) → Prop} {dp un : Nat} {gd : Option (List Code)} {env : Env} {outer : List Env} {A₀ : Around} {base h₀ : Heap} {L : Addr} {m : PySem.Str → Option Value} {s : Shared} {Q E : Value → Shared → Prop} {news : List (Addr × Obj)}
theorem two_adr {upd : List (Addr × Obj)} {d1 d2 : Addr} {o1 o2 : Obj} (ha : adrs upd = adrs [(d1, o1), (d2, o2)]) : ∃ o1' o2', upd = [(d1, o1'), (d2, o2')] := by
  cases upd with
  | nil => exact absurd ha (List.cons_ne_nil _ _).symm
  | cons p r =>
    have h1 : p.1 = d1 := (List.cons.inj ha).1
    obtain ⟨o2', e⟩ := one_adr (upd := r) (d := d2) (o := o2) (List.cons.inj ha).2
    exact ⟨p.2, o2', by rw [e, ← h1]⟩
theorem Spec.use2 {d1 d2 : Addr} {o1 o2 : Obj} (S : Spec w mean mg mb f args dep un₀ [(d1, o1), (d2, o2)] Pre Post)
    (B : Below A₀ base outer h₀) (F : Fr h₀ L s.heap m) (X : (hd.heap_1 w.params).In h₀) (N : News h₀ L s.heap news) (T : TP mean mg mb h₀) (hf : env.frame = some L) (hk : env.scope.kind = .function)
    (hd : dp + dep < recursionLimit) (hu : un + un₀ < cLine) (hP : Pre s.heap) (m1 : (d1, o1) ∈ news) (m2 : (d2, o2) ∈ news) (rest : List (Addr × Obj)) (hr : ∀ p ∈ rest, p ∈ news ∧ @Ne Nat p.1 d1 ∧ @Ne Nat p.1 d2)
    (ret : ∀ r o1' o2' new h' tk', Fr h₀ L h' m → News h₀ L h' (new ++ (d1, o1') :: (d2, o2') :: rest) → (∀ q ∈ (d1, o1') :: (d2, o2') :: rest, ∀ p ∈ new, @Ne Nat q.1 p.1) → KeepsBut [d1, d2] s.heap h' → Post r [(d1, o1'), (d2, o2')] new → Q r { s with heap := h', toks := tk' }) :
    wpAny (model PySem.Challenge.rw_pb0010_01.row.prog w) (topA dp un gd env outer) (call (.ref f) args) Q E s := by
  have sub : ∀ p ∈ [(d1, o1), (d2, o2)], p ∈ news := fun p hp => by
    rcases List.mem_cons.mp hp with rfl | hp
    · exact m1
    · rw [List.mem_singleton.mp hp]; exact m2
  refine S dp un gd env outer A₀ base h₀ L m s Q E B F X (fun p hp => N p (sub p hp)) T hf hk hd hu hP ?_
  intro r upd new h' tk' ha F' N' K Z hp
  obtain ⟨o1', o2', rfl⟩ := two_adr ha
  have ap := Z.apart N
  have n1 : ∀ p ∈ new, @Ne Nat d1 p.1 := fun p hp => ap _ m1 p hp
  have n2 : ∀ p ∈ new, @Ne Nat d2 p.1 := fun p hp => ap _ m2 p hp
  refine ret r o1' o2' new h' tk' F' ?_ ?_ K hp
  · intro p hp
    rcases List.mem_append.mp hp with hp | hp
    · exact Z.ledger F p hp
    rcases List.mem_cons.mp hp with rfl | hp
    · exact N' _ (.head _)
    rcases List.mem_cons.mp hp with rfl | hp
    · exact N' _ (.tail _ (.head _))
    · have z := hr p hp
      refine ⟨K _ _ (fun q => ?_) (N p z.1).1, (N p z.1).2⟩
      rcases List.mem_cons.mp q with q | q
      · exact z.2.1 q
      · exact z.2.2 (List.mem_singleton.mp q)
  · intro q hq
    rcases List.mem_cons.mp hq with rfl | hq
    · exact n1
    rcases List.mem_cons.mp hq with rfl | hq
    · exact n2
    · exact ap q (hr q hq).1
end
end
section
open PySem PySem.W PyProof.Rows PySem.Calls PySem.Spec PySem.SeqAt PyProof.Rows.LCg
set_option maxRecDepth 100000
set_option maxHeartbeats 1000000
theorem allLt_mem {d : Addr} {l : List (Addr × Obj)} (h : AllLt d l) : ∀ p ∈ l, @LT.lt Nat _ p.1 d := by
  induction l with
  | nil => intro p hp; cases hp
  | cons a r ih =>
    intro p hp
    rcases List.mem_cons.mp hp with rfl | hp
    · exact h.1
    · exact ih h.2 p hp
theorem off1_at {D a : Addr} {o : Obj} {l : List (Addr × Obj)} (h : Off1 D l) (m : (a, o) ∈ l) : @Ne Nat D a := (off1_mem h (a, o) m).symm
theorem rows_tail {h₀ : Heap} {news tl : List (Addr × Obj)} {vs : List Value} {xs : List PySem.Str} (h : RowsR (InL tl) vs xs) (k : ∀ a o, (a, o) ∈ tl → (a, o) ∈ news) : RowsR (GN h₀ news) vs xs := h.mono fun a o e => Or.inr (k a o e)
structure RootR (w : World) (R : Addr → Obj → Prop) (x : Addr) (T : TF) (dxs vxs cxs : List PySem.Str) : Prop where
  ty : TyH w R x T
  tagged : T.tagged = .bool true
  num : ∃ t, T.number = .int 50 t
  parent : T.parent = .none
  discs : ∃ D n dvs, T.discs = .ref D ∧ R D (listOf dvs.toArray n) ∧ RowsR R dvs dxs
  comps : ∃ c n cvs, T.comps = .ref c ∧ R c (listOf cvs.toArray n) ∧ RowsR R cvs cxs
  var : VarR R T.variant vxs
  nodup : (dxs ++ vxs ++ cxs).Nodup
  len : dxs.length ≤ 1 ∧ vxs.length ≤ 1 ∧ cxs.length ≤ 3
noncomputable def RootPost (w : World) (bag used scr : Addr) (lim : Int) (r : Value) (upd new : List (Addr × Obj)) : Prop :=
  ∃ x T dxs vxs cxs ob' us' xs' n', r = .ref x ∧ upd = [(bag, ob'), (used, listOf us'.toArray n')] ∧ BagO w scr (lim + 6) ob' ∧ StrsAre us' xs' ∧ xs'.length ≤ 5 ∧ RootR w (InL new) x T dxs vxs cxs
theorem root_nodup : ∀ d < 2, ∀ k < 4, ∀ b : Bool, (List.replicate d (letter 0) ++ (if b then [Str.ofString "v"] else []) ++ (List.range k).map fun i => letter ((d + i : Nat) : Int)).Nodup := by decide +kernel
inductive CompJ (used bag lC D c1 c2 : Addr) (od o1 o2 ob : Obj) (mB : FMap) (tl0 : List (Addr × Obj)) (d : Nat) (i : Nat) (m₁ : FMap) (news₁ : List (Addr × Obj)) : Prop
  | mk (ov : Option Value) (us : List Value) (n1 : Nat) (cs : List Value) (n2 : Nat) (tl : List (Addr × Obj)) (h0 : m₁ = (fun y => if y = Str.ofString "turn" then ov else mB y)) (h1 : news₁ = (lC, listOf cs.toArray n2) :: (D, od) :: (c2, o2) :: (c1, o1) :: (bag, ob) :: (used, listOf us.toArray n1) :: tl) (h2 : Off1 bag tl) (h3 : Off1 used tl) (h4 : Off1 lC tl) (h5 : (∀ p ∈ tl0, p ∈ tl)) (h6 : StrsAre us (List.replicate d (letter 0) ++ (List.range i).map fun j => letter ((d + j : Nat) : Int))) (h7 : us.length = d + i) (h8 : RowsR (InL tl) cs ((List.range i).map fun j => letter ((d + j : Nat) : Int))) (h9 : cs.length = i) : CompJ used bag lC D c1 c2 od o1 o2 ob mB tl0 d i m₁ news₁
theorem fr_map {h₀ h : Heap} {L : Addr} {m : FMap} (_ : Fr h₀ L h m) : ∃ mB : FMap, mB = m := ⟨m, rfl⟩
theorem range_snoc {f : Nat → PySem.Str} {i : Nat} : (List.range (i + 1)).map f = (List.range i).map f ++ [f i] := by rw [List.range_succ, List.map_append]; rfl
theorem comp_turn {g h' : Heap} {s : Shared} {L I used bag lC D c1 c2 D8 x8 d8 : Addr} {oI oA oB od o1 o2 ob : Obj} {mB : FMap} {a b : Option Value} {tl0 tl' : List (Addr × Obj)} {d i k0 nZ n9 tk : Nat} {cs us : List Value} {x : PySem.Str} {t : Tok} {v2 v3 : Value} {Q : Flow → Shared → Prop}
    (F : Fr g L h' (fun y => if y = Str.ofString "turn" then a else (fun y => if y = Str.ofString "turn" then b else mB y) y)) (N : News g L h' ((D8, rowOb x t v2 v3 k0) :: (x8, oA) :: (d8, oB) :: (I, oI) :: (lC, listOf (cs ++ [Value.ref D8]).toArray nZ) :: (D, od) :: (c2, o2) :: (c1, o1) :: (bag, ob) :: (used, listOf (us ++ [Value.str x t]).toArray n9) :: tl'))
    (hx : x = letter ((d + i : Nat) : Int)) (t1 : Off1 bag tl') (t2 : Off1 used tl') (t3 : Off1 lC tl') (tsub : ∀ p ∈ tl0, p ∈ tl') (hus : StrsAre us (List.replicate d (letter 0) ++ (List.range i).map fun j => letter ((d + j : Nat) : Int))) (hul : us.length = d + i) (hcs : RowsR (InL tl') cs ((List.range i).map fun j => letter ((d + j : Nat) : Int))) (hcl : cs.length = i)
    (ne : @Ne Nat D8 bag ∧ @Ne Nat D8 used ∧ @Ne Nat D8 lC ∧ @Ne Nat D8 I) (offI : lC ≠ I ∧ D ≠ I ∧ c2 ≠ I ∧ c1 ≠ I ∧ bag ≠ I ∧ used ≠ I ∧ Off1 I tl') :
    TurnEnd g L I oI (fun _ => True) (CompJ used bag lC D c1 c2 od o1 o2 ob mB tl0 d (i + 1)) Q s .next { s with heap := h', toks := tk } := by
  refine ⟨h', tk, _, (lC, listOf (cs ++ [Value.ref D8]).toArray nZ) :: (D, od) :: (c2, o2) :: (c1, o1) :: (bag, ob) :: (used, listOf (us ++ [Value.str x t]).toArray n9) :: (D8, rowOb x t v2 v3 k0) :: tl', rfl, map_again ▸ F, ?_, ?_, trivial, a, us ++ [Value.str x t], n9, cs ++ [Value.ref D8], nZ, (D8, rowOb x t v2 v3 k0) :: tl', rfl, rfl, ⟨ne.1, t1⟩, ⟨ne.2.1, t2⟩, ⟨ne.2.2.1, t3⟩, fun p hp => List.mem_cons_of_mem _ (tsub p hp), ?_, ?_, ?_, ?_⟩
  · intro p hp
    refine N p ?_
    simp only [List.mem_cons] at hp ⊢
    rcases hp with h | h | h | h | h | h | h | h | h <;> simp [h]
  · intro p hp
    simp only [List.mem_cons] at hp
    rcases hp with h | h | h | h | h | h | h | h
    · subst h; exact offI.1
    · subst h; exact offI.2.1
    · subst h; exact offI.2.2.1
    · subst h; exact offI.2.2.2.1
    · subst h; exact offI.2.2.2.2.1
    · subst h; exact offI.2.2.2.2.2.1
    · subst h; exact ne.2.2.2
    · exact off1_mem offI.2.2.2.2.2.2 p h
  · subst hx
    rw [range_snoc, ← List.append_assoc]
    exact strs_snoc hus
  · rw [List.length_append, hul]; rfl
  · subst hx
    rw [range_snoc]
    exact RowsR.snoc (hcs.mono fun a o e => List.mem_cons_of_mem _ e) ⟨D8, t, v2, v3, k0, rfl, List.mem_cons_self⟩
  · rw [List.length_append, hcl]; rfl
theorem record_use {w : World} {mean : ExcName → Option Value} {mg mb : PySem.Str → Option Value} {dp un : Nat} {gd : Option (List Code)} {env : Env} {outer : List Env} {A₀ : Around} {base h₀ : Heap} {L : Addr} {m : PySem.Str → Option Value} {s : Shared} {Q : Value → Shared → Prop} {E : Value → Shared → Prop} {news : List (Addr × Obj)} {name variant : Value} {dl cl : Addr} {dvs cvs : List Value} (B : Below A₀ base outer h₀) (F : Fr h₀ L s.heap m) (X : (hd.heap_1 w.params).In h₀) (N : News h₀ L s.heap news) (T0 : TP mean mg mb h₀)
    (hf : env.frame = some L) (hk : env.scope.kind = .function) (hd : dp + 30 < recursionLimit) (hu : un + 2000 < cLine) (hnm : handedIn name = true) (hva : handedIn variant = true) (hdl : s.heap.IsList dl dvs.toArray) (hcl : s.heap.IsList cl cvs.toArray) (z1 : dvs.length ≤ 100) (z2 : cvs.length ≤ 100)
    (ret : ∀ x d op oo T D1 D2 n1 n2 k0 k1 k2 k3 k4 k5 k6 k7 k8 k9 k10 k11 k12 k13 k14 k15 k16 k17 k18 k19 k20 h' tk', Fr h₀ L h' m → News h₀ L h' ((D2, listOf cvs.toArray n2) :: (D1, listOf dvs.toArray n1) :: (x, instObj 94 d) :: (d, dictOf (tyEs w k0 k1 k2 k3 k4 k5 k6 k7 k8 k9 k10 k11 k12 k13 k14 k15 k16 k17 k18 k19 k20 T) 21) :: (op, oo) :: news) → (@Ne Nat x d ∧ @Ne Nat op x ∧ @Ne Nat op d ∧ @Ne Nat D1 x ∧ @Ne Nat D1 d ∧ @Ne Nat D2 x ∧ @Ne Nat D2 d) → Off1 x news ∧ Off1 d news ∧ Off1 op news ∧ Off1 D1 news ∧ Off1 D2 news →
      (op == sysModules) = false ∧ T.handed = true → T.parent = .none → oo.IsDictOf (SK w) [] → T.ops = .ref op → T.discs = .ref D1 ∧ T.comps = .ref D2 ∧ T.variant = variant → Q (.ref x) { s with heap := h', toks := tk' }) :
    wpAny (model PySem.Challenge.rw_pb0010_01.row.prog w) (topA dp un gd env outer) (call (.ref 133) [name, .ref dl, .ref cl, variant]) Q E s := by
  refine Spec.use0 (record_spec w mean mg mb name variant dl cl dvs cvs z1 z2 hnm hva) B F X N T0 hf hk hd hu ⟨hdl, hcl⟩ ?_
  rintro r new h' tk' F' N' hne - ⟨x, d, op, od, oo, T, D1, D2, n1, n2, rfl, h1, h2, h3, h4, ⟨k0, k1, k2, k3, k4, k5, k6, k7, k8, k9, k10, k11, k12, k13, k14, k15, k16, k17, k18, k19, k20, rfl⟩, h6, h7, h8, h9, h10, rfl⟩
  exact ret x d op oo T D1 D2 n1 n2 k0 k1 k2 k3 k4 k5 k6 k7 k8 k9 k10 k11 k12 k13 k14 k15 k16 k17 k18 k19 k20 h' tk' F' N' h1 ⟨off1_of fun q hq => hne q hq _ (.tail _ (.tail _ (.head _))), off1_of fun q hq => hne q hq _ (.tail _ (.tail _ (.tail _ (.head _)))), off1_of fun q hq => hne q hq _ (.tail _ (.tail _ (.tail _ (.tail _ (.head _))))), off1_of fun q hq => hne q hq _ (.tail _ (.head _)), off1_of fun q hq => hne q hq _ (.head _)⟩ ⟨h2, h3⟩ h4 h6 h7 ⟨h8, h9, h10⟩
theorem hand_root {T : TF} {t : Tok} (h : T.handed = true) : ({ T with tagged := .bool true, number := .int 50 t } : TF).handed = true := by
  have hI : handedIn (.int 50 t) = true := rfl
  simp only [TF.handed, Bool.and_eq_true, hBool, hI] at h ⊢
  simp only [h, and_self]
noncomputable def offTwo (bag used : Addr) (all : List (Addr × Obj)) : List (Addr × Obj) := all.filter fun p => decide (@Ne Nat p.1 bag ∧ @Ne Nat p.1 used)
theorem offTwo_mem {bag used : Addr} {all : List (Addr × Obj)} {p : Addr × Obj} (h : p ∈ all) (h1 : @Ne Nat p.1 bag) (h2 : @Ne Nat p.1 used) : p ∈ offTwo bag used all := List.mem_filter.mpr ⟨h, decide_eq_true ⟨h1, h2⟩⟩
theorem root_fin {w : World} {s : Shared} {g h' : Heap} {L' bag used scr x d op D1 D2 : Addr} {m' : FMap} {all tl : List (Addr × Obj)} {ob uo ob2 oo : Obj} {lim lim' : Int} {T : TF} {dvs cvs us : List Value} {dxs vxs cxs xs : List PySem.Str} {n1 n2 nU tk : Nat} {k0 k1 k2 k3 k4 k5 k6 k7 k8 k9 k10 k11 k12 k13 k14 k15 k16 k17 k18 k19 k20 tk5 : Tok} (F : Fr g L' h' m') (N : News g L' h' all)
    (h1 : (x, instObj 94 d) ∈ all) (h2 : (d, dictOf (tyEs w k0 k1 k2 k3 k4 k5 k6 k7 k8 k9 k10 k11 k12 k13 k14 k15 k16 k17 k18 k19 k20 { T with tagged := .bool true, number := .int 50 tk5 }) 21) ∈ all) (h3 : (op, oo) ∈ all) (h4 : (D1, listOf dvs.toArray n1) ∈ all) (h5 : (D2, listOf cvs.toArray n2) ∈ all) (h6 : (bag, ob2) ∈ all) (h7 : (used, listOf us.toArray nU) ∈ all)
    (ne1 : @Ne Nat x bag ∧ @Ne Nat d bag ∧ @Ne Nat op bag ∧ @Ne Nat D1 bag ∧ @Ne Nat D2 bag) (ne2 : @Ne Nat x used ∧ @Ne Nat d used ∧ @Ne Nat op used ∧ @Ne Nat D1 used ∧ @Ne Nat D2 used)
    (hs : (op == sysModules) = false ∧ T.handed = true) (hp : T.parent = .none) (ho : oo.IsDictOf (SK w) []) (hop : T.ops = .ref op) (hT : T.discs = .ref D1 ∧ T.comps = .ref D2) (hr1 : RowsR (InL tl) dvs dxs) (hr2 : RowsR (InL tl) cvs cxs) (htl : ∀ p ∈ tl, p ∈ all) (t1 : Off1 bag tl) (t2 : Off1 used tl)
    (hv : VarR (fun a o => (a, o) ∈ all ∧ @Ne Nat a bag ∧ @Ne Nat a used) T.variant vxs) (hnd : (dxs ++ vxs ++ cxs).Nodup) (hlen : dxs.length ≤ 1 ∧ vxs.length ≤ 1 ∧ cxs.length ≤ 3) (hb : BagO w scr lim' ob2) (hl : lim' ≤ lim + 6) (hus : StrsAre us xs) (hz : xs.length ≤ 5) :
    Done s g L' [(bag, ob), (used, uo)] (RootPost w bag used scr lim) (.ref x) { s with heap := h', toks := tk } := by
  have up : ∀ a o, (a, o) ∈ all ∧ @Ne Nat a bag ∧ @Ne Nat a used → (a, o) ∈ offTwo bag used all := fun a o h => offTwo_mem h.1 h.2.1 h.2.2
  have upt : ∀ a o, (a, o) ∈ tl → (a, o) ∈ offTwo bag used all := fun a o h => offTwo_mem (htl _ h) (off1_mem t1 _ h) (off1_mem t2 _ h)
  refine ⟨h', tk, m', [(bag, ob2), (used, listOf us.toArray nU)], offTwo bag used all, rfl, F, fun p hp => ?_, fun p hp => N p (List.mem_filter.mp hp).1, rfl, fun p hp q hq => ?_, x, { T with tagged := .bool true, number := .int 50 tk5 }, dxs, vxs, cxs, ob2, us, xs, nU, rfl, rfl, hb.more hl, hus, hz,
    { ty := ⟨d, _, op, oo, up _ _ ⟨h1, ne1.1, ne2.1⟩, up _ _ ⟨h2, ne1.2.1, ne2.2.1⟩, ⟨_, _, _, _, _, _, _, _, _, _, _, _, _, _, _, _, _, _, _, _, _, rfl⟩, hop, up _ _ ⟨h3, ne1.2.2.1, ne2.2.2.1⟩, ho, hs.1, hand_root hs.2⟩,
      tagged := rfl, num := ⟨_, rfl⟩, parent := hp, discs := ⟨D1, n1, dvs, hT.1, up _ _ ⟨h4, ne1.2.2.2.1, ne2.2.2.2.1⟩, hr1.mono upt⟩, comps := ⟨D2, n2, cvs, hT.2, up _ _ ⟨h5, ne1.2.2.2.2, ne2.2.2.2.2⟩, hr2.mono upt⟩, var := hv.mono up, nodup := hnd, len := hlen }⟩
  · rcases List.mem_cons.mp hp with rfl | hp
    · exact N _ h6
    · rw [List.mem_singleton.mp hp]; exact N _ h7
  · have z := of_decide_eq_true (List.mem_filter.mp hp).2
    rcases List.mem_cons.mp hq with rfl | hq
    · exact z.1
    · rw [List.mem_singleton.mp hq]; exact z.2
noncomputable def DiscJ (w : World) (bag used c1 c2 scr : Addr) (uo o1 o2 : Obj) (lim : Int) (i : Nat) (ys : List Value) (news : List (Addr × Obj)) : Prop :=
  ∃ ob' tl, news = (c2, o2) :: (c1, o1) :: (bag, ob') :: (used, uo) :: tl ∧ Off1 bag tl ∧ Off1 used tl ∧ BagO w scr (lim + 2 * i) ob' ∧ RowsR (InL tl) ys (List.replicate i (letter 0))
end
set_option maxHeartbeats 1000000

local macro_rules | `(tactic| k_search 13) => `(tactic| first | exact (fun _ h => h) | (refine subKeep ?_; k_search 13) | exact subL | (refine subR ?_; k_search 13) | (refine subSkip ?_; k_search 13))
local macro_rules | `(tactic| k_search 14) => `(tactic| first | (with_reducible assumption) | exact List.Mem.head _ | (refine List.mem_cons_of_mem _ ?_; k_search 14) | (refine memR ?_; k_search 14))
local macro_rules | `(tactic| k_search 15) => `(tactic| first | exact (fun _ h => h) | (refine subPick (by k_search 14) ?_; k_search 15) | exact subApp (by k_search 13) (by k_search 15) | k_search 13)
section

set_option maxHeartbeats 8000000
theorem root_spec (w : World) (mean mg mb) (bag scr used : Addr) (whole : Value) (ob : Obj) (lim : Int) (n : Nat) (hb : BagO w scr lim ob) (hl : lim + 20 < 1000) (n1 : @Ne Nat scr bag) (n2 : @Ne Nat scr used) (n3 : @Ne Nat bag used) :
    Spec w mean mg mb 223 [.ref bag, whole, .ref used] 60 5000 [(bag, ob), (used, listOf #[] n)] (fun h => ScrR (At h) scr) (RootPost w bag used scr lim) := by
  refine spec_enterK [(Str.ofString "bag", .ref bag), (Str.ofString "whole", whole), (Str.ofString "used", .ref used)] (by k_is) (by k_is) (fun _ => BindsTo.of_eq rfl) ?K (by decide) rfl rfl rfl ?_
  case K =>
    intro n x hx
    simp only [List.mem_cons, List.not_mem_nil, or_false] at hx
    rcases hx with rfl | rfl | rfl <;> first | exact .inl rfl | exact .inr ⟨rfl, rfl⟩
  intro dp un gd env outer base g L' h₁ s tk₀ cells hd hu hP G F N Y off0 B X Tp
  have hS : ScrR (At g) scr := by
    refine byNo fun hno => ?_
    obtain ⟨vs, n, ns, e, r⟩ := hP
    refine hno ?_
    clear hno
    refine ⟨vs, n, ns, G _ _ e ?_, r⟩
    simp only [adrs, List.map_cons, List.map_nil, List.mem_cons, List.not_mem_nil, or_false, not_or]
    exact ⟨n1, n2⟩
  clear hP
  have hsL : @LT.lt Nat _ scr L' := by
    refine byNo fun hno => ?_
    obtain ⟨vs, n, ns, e, r⟩ := hS
    refine hno ?_
    clear hno
    exact Nat.lt_of_lt_of_le (Heap.lt_size e) F.above
  refine byNo fun hno => ?_
  obtain ⟨o1, o2, rfl, k1, k2⟩ := CellsAre.two Y
  refine hno ?_
  clear hno
  (try dsimp only [List.cons_append, List.nil_append, List.append_nil] at N)
  have off1 : (@Ne Nat (L' + 1 + 1) bag ∧ @Ne Nat (L' + 1 + 1) used) ∧ (@Ne Nat (L' + 1) bag ∧ @Ne Nat (L' + 1) used) :=
    ⟨⟨off0 _ (.head _) _ (.head _), off0 _ (.head _) _ (.tail _ (.head _))⟩, off0 _ (.tail _ (.head _)) _ (.head _), off0 _ (.tail _ (.head _)) _ (.tail _ (.head _))⟩
  have off1a := off1.1.1
  have off1b := off1.1.2
  have off1c := off1.2.1
  have off1d := off1.2.2
  clear off0 off1
  replace k1 : o1.data = .cell (some whole) := k1
  replace k2 : o2.data = .cell (some (.ref bag)) := k2
  clear Y
  k_with_none
  (try k_unmd); (try dsimp only); (try k_fold)
  focus
    ((try dsimp only); walk1)
  all_goals (try dsimp only)
  refine Assign_ListComp_U F rfl (by first | rfl | with_unfolding_all rfl) rfl (by decide) rfl (by decide) (by decide) rfl rfl ?_
  focus
    (iterate 13 ((try dsimp only); walk1))
    ((try dsimp only); refine' roll_use ?B7 ?F7 ?X7 ?N7 ?T7 rfl rfl ?d7 ?u7 ?U7 ?b7 ?l7 ?S7 ?n7 ?s07 ?s17 ?_; (case B7 => assumption); (case F7 => assumption); (case X7 => assumption); (case N7 => assumption); (case T7 => assumption); (case d7 => k_search 2); (case u7 => k_search 2); (case U7 => k_updF); (case b7 => assumption); (case l7 => omega); (case S7 => exact ScrR.mono (by assumption) (fun a o e => Fr.keep (by assumption) a o e)); (case n7 => omega); (case s07 => first | omega | ((have := not_empty (by assumption)); omega)); (case s17 => omega); (intro _ _ _ _ _ _ _ _ N'; (try dsimp only [List.cons_append, List.nil_append] at N'); revert N'; intro _))
    ((try dsimp only); walk1)
  all_goals (try dsimp only)
  rename News _ _ _ _ => N1
  rename Fr _ _ _ _ => F1
  rename BagO _ _ _ _ => hb1
  rename_i v1 t1 ob1 h1 tk1 hv1
  refine comp_range (DiscJ w bag used (L' + 1) (L' + 1 + 1) scr (listOf #[] n) o2 o1 (lim + 1)) (by omega) (by omega) rfl F1 N1 ⟨ob1, [], rfl, trivial, trivial, by simpa using hb1, RowsR.nil⟩ ?step ?fin
  case step =>
    clear F1 N1
    rintro i ys news v I oI C oC D m₂ h tk E' hi ⟨ob', tl, rfl, t1, t2, hb2, hR⟩ hC hx F2 N2 off3 ne
    have hoI := nm31 off3
    have hoC := nm32 off3
    have hoD := off3.one
    have ne1 := ne.1
    have ne2 := ne.2.1
    have ne3 := ne.2.2
    focus
      (iterate 14 ((try dsimp only); walk1))
    all_goals (try dsimp only)
    rename News _ _ _ _ => N3
    rename Fr _ _ _ _ => F3
    rename_i l3 h3 lt3
    refine Spec.use2 (row_spec w mean mg mb bag scr l3 whole ob' (lim + 1 + 2 * i) [] 0 [] hb2 (by omega) .nil (by decide) n1 (Nat.ne_of_lt (Nat.lt_trans (Nat.lt_succ_of_lt hsL) (nmLt lt3 (L' + 1, o2) (by k_search 3)))) (by k_ne)) B F3 X N3 Tp rfl rfl (by k_search 2) (by k_search 2) (hS.mono fun a o e => F3.keep a o e) (by k_search 3) (by k_search 3)
      ((I, oI) :: (C, oC) :: (D, lst ys) :: (L' + 1 + 1, o1) :: (L' + 1, o2) :: (used, listOf #[] n) :: tl) ?hr ?ret
    case hr =>
      exact fun p hp => ⟨(by k_search 13 : ∀ q ∈ _, q ∈ _) p hp, (by k_all : ∀ q ∈ _, @Ne Nat q.1 bag) p hp, Nat.ne_of_lt (nmLt lt3 p ((by k_search 13 : ∀ q ∈ _, q ∈ _) p hp))⟩
    case ret =>
      intro r ob3 uo3 new h4 tk4 F4 N4 ap4 K4 hq10
      refine byNo fun hno => ?_
      obtain ⟨x, t, ob4, n4, e, hb4, hrv, hx0⟩ := hq10
      refine hno ?_
      clear hno
      refine byNo fun hno => ?_
      obtain ⟨-, rfl⟩ := Prod.mk.inj (List.cons.inj e).1
      refine hno ?_
      clear hno
      clear e
      refine CompEnd.intro F4 N4 ((L' + 1 + 1, o1) :: (L' + 1, o2) :: (bag, ob3) :: (used, listOf #[] n) :: (new ++ tl)) ?_ ?_ trivial ⟨ob3, new ++ tl, rfl, ?_, ?_, hb4.more (by omega), ?_⟩
      · k_search 15
      · refine Off3.of fun p hp => ?_
        simp only [List.mem_cons, List.mem_append] at hp
        rcases hp with h | h | h | h | h | h
        · subst h; exact off3.1
        · subst h; exact off3.2.1
        · subst h; exact off3.2.2.1
        · subst h; exact off3.2.2.2.1
        · exact ⟨(ap4 (I, oI) (by simp) p h).symm, (ap4 (C, oC) (by simp) p h).symm, (ap4 (D, lst ys) (by simp) p h).symm⟩
        · exact off3.2.2.2.2.mem p h
      · refine off1_of fun p hp => ?_
        rcases List.mem_append.mp hp with h | h
        · exact (ap4 (bag, ob3) (by simp) p h).symm
        · exact off1_mem t1 p h
      · refine off1_of fun p hp => ?_
        rcases List.mem_append.mp hp with h | h
        · exact (ap4 (used, listOf #[] n) (by simp) p h).symm
        · exact off1_mem t2 p h
      · rw [List.replicate_succ']
        exact RowsR.snoc (hR.mono fun a o e => List.mem_append_right _ e) ((hx0 rfl) ▸ hrv.mono fun a o e => List.mem_append_left _ e)
  case fin =>
    clear F1 N1
    rintro ys news' D h tk ⟨ob', tl, rfl, t1, t2, hb2, hR⟩ F2 N2 o3
    refine byNo fun hno => ?_
    obtain ⟨d, rfl⟩ : ∃ d : Nat, v1 = (d : Int) := ⟨v1.toNat, (Int.toNat_of_nonneg hv1.1).symm⟩
    refine hno ?_
    clear hno
    rw [Int.toNat_natCast] at hR hb2
    have hyl : ys.length = d := by rw [hR.1, List.length_replicate]
    focus
      (iterate 7 ((try dsimp only); walk1))
      ((try dsimp only); refine rows_comp (by assumption) rfl rfl (by decide) rfl (by decide) (by decide) (by decide) ?_)
      ((try dsimp only); walk1)
      (((with_reducible show RowsSrc _ _ _ _ _ _); first | refine rowsSrc_base (by assumption) (by assumption) (by with_reducible assumption) (by k_search 5) (by k_search 4) ?_ | refine rowsSrc_led (by assumption) (by assumption) (by k_search 3) (by k_search 5) (by k_search 4) ?_); (intro _ _ _ _ hw y5 y6 y7; (have hwl := StrsAre.length hw); (try simp only [List.length_cons, List.length_nil, List.length_drop, List.length_append] at hwl); revert hw y5 y6 y7 hwl; intro _ _ _ _ _))
      ((try dsimp only); walk1)
      ((try dsimp only); refine' extend_L ?F5 ?N5 ?B5 ?U5 ?z5 ?y5 ?_; (case F5 => assumption); (case N5 => assumption); (case B5 => exact News.get (by assumption) (by k_search 3)); (case U5 => k_updF); (case z5 => k_search 4); (case y5 => k_search 4); (intro _ _ _ N'; (try dsimp only [List.cons_append, List.nil_append] at N'); revert N'; intro _))
      (iterate 8 ((try dsimp only); walk1))
      ((try dsimp only); refine For_of ?_)
      (iterate 13 ((try dsimp only); walk1))
      ((try dsimp only); refine' roll_use ?B6 ?F6 ?X6 ?N6 ?T6 rfl rfl ?d6 ?u6 ?U6 ?b6 ?l6 ?S6 ?n6 ?s06 ?s16 ?_; (case B6 => assumption); (case F6 => assumption); (case X6 => assumption); (case N6 => assumption); (case T6 => assumption); (case d6 => k_search 2); (case u6 => k_search 2); (case U6 => k_updF); (case b6 => assumption); (case l6 => omega); (case S6 => exact ScrR.mono (by assumption) (fun a o e => Fr.keep (by assumption) a o e)); (case n6 => omega); (case s06 => first | omega | ((have := not_empty (by assumption)); omega)); (case s16 => omega); (intro _ _ _ _ _ _ _ _ N'; (try dsimp only [List.cons_append, List.nil_append] at N'); revert N'; intro _))
      ((try dsimp only); walk1)
    all_goals (try dsimp only)
    rename_i Dn hA tkA ws hw oDn hwl hB nU lC hC ltC hD FD ND v2 tv2 ob2 hE tkE hv2 hb3 F5 N5
    refine byNo fun hno => ?_
    obtain ⟨k, rfl⟩ : ∃ k : Nat, v2 = (k : Int) := ⟨v2.toNat, (Int.toNat_of_nonneg hv2.1).symm⟩
    refine hno ?_
    clear hno
    rw [List.length_replicate] at hwl
    have N6 : News g L' hE ((lC, listOf #[] 0) :: (D, lst ys) :: (L' + 1 + 1, o1) :: (L' + 1, o2) :: (bag, ob2) :: (used, listOf ws.toArray nU) :: tl) := fun p hp => N5 p (by
      exact (by k_search 15 : ∀ q ∈ _, q ∈ _) p hp)
    refine byNo fun hno => ?_
    obtain ⟨mB, eB⟩ := fr_map F5
    refine hno ?_
    clear hno
    refine for_range (CompJ used bag lC D (L' + 1) (L' + 1 + 1) (lst ys) o2 o1 ob2 mB tl d) (by omega) (by omega) rfl F5 N6 ⟨_, ws, _, [], _, tl, by rw [eB]; exact map_same, rfl, t1, t2, off1_of fun p hp => Nat.ne_of_lt (allLt_mem ltC.2.2.2.2.2.2 p hp), fun _ hp => hp, by simpa using hw, by simpa using hwl, RowsR.nil, rfl⟩ ?turn ?done
    case turn =>
      rintro i ti m₁ news₁ h6 tk6 I oI hi ⟨ov, us, n6, cs, n7, tl', rfl, rfl, t1', t2', t3', tsub, hus, hul, hcs, hcl⟩ F6 N7 offI
      subst eB
      clear N6 FD ND
      have offI' := off1_of offI
      clear offI
      focus
        (iterate 18 ((try dsimp only); walk1))
        ((try dsimp only); refine len_L (by first | exact Heap.IsList.at (by assumption) (fun o e => Fr.keep (by assumption) _ o e) | exact isListOf (News.get (by assumption) (by k_search 3))) (by k_search 4) ?_; (intro _ _))
        ((try dsimp only); first | (refine letter_at (by omega) (by omega) ?_; (intro _ _)) | (refine letter_mod ?_; (intro _ _)))
        ((try dsimp only); walk1)
        ((try dsimp only); refine' append_L ?F3 ?N3 ?U3 ?z3 ?_; (case F3 => assumption); (case N3 => assumption); (case U3 => k_updF); (case z3 => k_search 4); (intro _ _ _ N'; (try dsimp only [List.cons_append, List.nil_append] at N'); revert N'; intro _))
        (iterate 14 ((try dsimp only); walk1))
        ((try dsimp only); refine item_last (by first | exact Heap.IsList.at (by assumption) (fun o e => Fr.keep (by assumption) _ o e) | exact isListOf (News.get (by assumption) (by k_search 3))) (by first | assumption | exact List.getLast?_concat) ?_)
        (iterate 10 ((try dsimp only); walk1))
        ((try dsimp only); refine subtype_use (by assumption) (by assumption) (by assumption) (by assumption) (by assumption) rfl rfl (by k_search 2) (by k_search 2) ?_; (intro _ _ _ _ _ _ _ _ off; (have ofa := off.1); (have ofb := off.2); clear off; revert ofa ofb; intro _ _))
        (iterate 5 ((try dsimp only); walk1))
        ((try dsimp only); refine' append_L ?F4 ?N4 ?U4 ?z4 ?_; (case F4 => assumption); (case N4 => assumption); (case U4 => k_updF); (case z4 => k_search 4); (intro _ _ _ N'; (try dsimp only [List.cons_append, List.nil_append] at N'); revert N'; intro _))
        ((try dsimp only); walk1)
      all_goals (try dsimp only)
      rename_i x8 d8 oA oB hX tkX ofa8 ofb8 D8 hY lt8 hZ nZ F8 N8
      exact comp_turn F8 N8 (by rw [hul]) t1' t2' t3' tsub hus hul hcs hcl ⟨by k_ne, by k_ne, by k_ne, by k_ne⟩ offI'
    case done =>
      rintro m₁ news₁ h6 tk6 ⟨ov, us, n6, cs, n7, tl', rfl, rfl, t1', t2', t3', tsub, hus, hul, hcs, hcl⟩ F6 N7
      subst eB
      rw [Int.toNat_natCast] at hus hul hcs hcl
      clear N6 FD ND
      focus
        focus (iterate 13 ((try dsimp only); walk1))
        focus ((try dsimp only); refine ne_empty (by first | exact Heap.IsList.at (by assumption) (fun o e => Fr.keep (by assumption) _ o e) | exact isListOf (News.get (by assumption) (by k_search 3))) (isListOf (News.get (by assumption) (by k_search 3))) (by k_search 2) ?_)
        focus (iterate 20 ((try dsimp only); walk1))
        rotate_left
        focus (iterate 11 ((try dsimp only); walk1))
        focus ((try dsimp only); refine' roll_use ?B1 ?F1 ?X1 ?N1 ?T1 rfl rfl ?d1 ?u1 ?U1 ?b1 ?l1 ?S1 ?n1 ?s01 ?s11 ?_; (case B1 => assumption); (case F1 => assumption); (case X1 => assumption); (case N1 => assumption); (case T1 => assumption); (case d1 => k_search 2); (case u1 => k_search 2); (case U1 => k_updF); (case b1 => assumption); (case l1 => omega); (case S1 => exact ScrR.mono (by assumption) (fun a o e => Fr.keep (by assumption) a o e)); (case n1 => omega); (case s01 => first | omega | ((have := not_empty (by assumption)); omega)); (case s11 => omega); (intro _ _ _ _ _ _ _ _ N'; (try dsimp only [List.cons_append, List.nil_append] at N'); revert N'; intro _))
        focus (iterate 16 ((try dsimp only); walk1))
        focus ((try dsimp only); refine' append_L ?F2 ?N2 ?U2 ?z2 ?_; (case F2 => assumption); (case N2 => assumption); (case U2 => k_updF); (case z2 => k_search 4); (intro _ _ _ N'; (try dsimp only [List.cons_append, List.nil_append] at N'); revert N'; intro _))
        focus (iterate 38 ((try dsimp only); walk1))
        focus ((try dsimp only); refine subtype_use (by assumption) (by assumption) (by assumption) (by assumption) (by assumption) rfl rfl (by k_search 2) (by k_search 2) ?_; (intro _ _ _ _ _ _ _ _ off; (have ofa := off.1); (have ofb := off.2); clear off; revert ofa ofb; intro _ _))
        focus (iterate 32 ((try dsimp only); walk1))
        rotate_left
        focus (iterate 18 ((try dsimp only); walk1))
        rotate_left
      all_goals (try dsimp only)
      all_goals (
        rename Fr _ _ _ _ => F7
        rename News _ _ _ _ => N9
        refine record_use B F7 X N9 Tp rfl rfl (by k_search 2) (by k_search 2) rfl rfl (isListOf (News.get N9 (by k_search 3))) (isListOf (News.get N9 (by k_search 3))) (by omega) (by omega) ?_
        intro x d5 op oo TT D1 D2 m1 m2 k0 k1 k2 k3 k4 k5 k6 k7 k8 k9 k10 k11 k12 k13 k14 k15 k16 k17 k18 k19 k20 h8 tk8 F8 N8 hne off ha hp ho hop hT
        (try dsimp only [tyEs, ent] at N8)
        refine byNo fun hno => ?_
        obtain ⟨e1, e2, e3, e4, e5, e6, e7⟩ := hne
        obtain ⟨f1, f2, f3, f4, f5⟩ := off
        refine hno ?_
        clear hno
        have g1 : @Ne Nat x bag := by exact off1_at f1 (by k_search 3)
        have g2 : @Ne Nat d5 bag := by exact off1_at f2 (by k_search 3)
        have g3 : @Ne Nat op bag := by exact off1_at f3 (by k_search 3)
        have g4 : @Ne Nat D1 bag := by exact off1_at f4 (by k_search 3)
        have g5 : @Ne Nat D2 bag := by exact off1_at f5 (by k_search 3)
        have u1 : @Ne Nat x used := by exact off1_at f1 (by k_search 3)
        have u2 : @Ne Nat d5 used := by exact off1_at f2 (by k_search 3)
        have u3 : @Ne Nat op used := by exact off1_at f3 (by k_search 3)
        have u4 : @Ne Nat D1 used := by exact off1_at f4 (by k_search 3)
        have u5 : @Ne Nat D2 used := by exact off1_at f5 (by k_search 3)
        clear F7 N9
        focus
          (iterate 17 ((try dsimp only); walk1))
          (k_unfold; (try dsimp only))
        all_goals (try dsimp only)
        rename Fr _ _ _ _ => F7
        rename News _ _ _ _ => N9
        rename BagO _ _ _ _ => hb9)
      all_goals (first
        | (refine root_fin (T := TT) (tl := tl') (vxs := []) F7 N9 (by k_search 3) (by k_search 3) (by k_search 3) (by k_search 3) (by k_search 3) (by k_search 3) (by k_search 3) ⟨g1, g2, g3, g4, g5⟩ ⟨u1, u2, u3, u4, u5⟩ ha hp ho hop ⟨hT.1, hT.2.1⟩ (hR.mono fun a o e => tsub _ e) hcs ?tl t1' t2' (.inl ⟨hT.2.2, rfl⟩) (root_nodup d (by omega) k (by omega) false) ⟨by simp; omega, by simp, by simp; omega⟩ hb9 (by omega) hus (by simp; omega)
           case tl => intro p hp; simp [hp])
        | (refine root_fin (T := TT) (tl := tl') (vxs := [Str.ofString "v"]) F7 N9 (by k_search 3) (by k_search 3) (by k_search 3) (by k_search 3) (by k_search 3) (by k_search 3) (by k_search 3) ⟨g1, g2, g3, g4, g5⟩ ⟨u1, u2, u3, u4, u5⟩ ha hp ho hop ⟨hT.1, hT.2.1⟩ (hR.mono fun a o e => tsub _ e) hcs ?tl t1' t2' ?var (root_nodup d (by omega) k (by omega) true) ⟨by simp; omega, by simp, by simp; omega⟩ hb9 (by omega) (hus.append' (.cons _ _ .nil)) (by simp; omega)
           case tl => intro p hp; simp [hp]
           case var => exact .inr ⟨_, _, _, _, _, _, _, _, _, _, _, hT.2.2, ⟨by k_search 3, by k_ne, by k_ne⟩, ⟨by k_search 3, by k_ne, by k_ne⟩, ⟨by k_search 3, by k_ne, by k_ne⟩, ⟨by k_search 3, by k_ne, by k_ne⟩, ⟨_, _, _, _, _, rfl, by k_search 3, by k_ne, by k_ne⟩, rfl⟩))
end
section
open PySem PySem.W PyProof.Rows PySem.Calls PySem.SeqAt PySem.Spec PyProof.Rows.LCg
set_option maxRecDepth 100000
set_option maxHeartbeats 1000000
theorem get_snoc {α : Type} {l : List α} {x y : α} {i : Nat} (h : (l ++ [x])[i]? = some y) : l[i]? = some y ∨ (i = l.length ∧ y = x) := by
  by_cases hi : i < l.length
  · rw [List.getElem?_append_left hi] at h; exact .inl h
  · have hi' : l.length ≤ i := Nat.le_of_not_lt hi
    rw [List.getElem?_append_right hi'] at h
    cases hq : i - l.length with
    | zero => rw [hq] at h; simp at h; exact .inr ⟨by omega, h.symm⟩
    | succ i => rw [hq] at h; simp at h
theorem get_old {α : Type} {l : List α} {x y : α} {i : Nat} (h : l[i]? = some y) : (l ++ [x])[i]? = some y := by
  rw [List.getElem?_append_left (lt_of_get h)]; exact h
theorem names_old {es : List BE} {e : BE} {js : List Nat} (h : ∀ j ∈ js, j < es.length) : namesOf (es ++ [e]) js = namesOf es js := by
  unfold namesOf
  have : ∀ l : List Nat, (∀ j ∈ l, j < es.length) → l.flatMap (ownOf (es ++ [e])) = l.flatMap (ownOf es) := fun l hl => by
    induction l with
    | nil => rfl
    | cons a r ih =>
      rw [List.flatMap_cons, List.flatMap_cons, ih fun j hj => hl j (List.mem_cons_of_mem _ hj)]
      congr 1
      unfold ownOf
      rw [List.getElem?_append_left (hl a List.mem_cons_self)]
  exact this _ fun j hj => h j (List.mem_reverse.mp hj)
theorem UpR.bound {es : List BE} : ∀ {js : List Nat} {p : Int}, UpR es p js → ∀ j ∈ js, j < es.length
  | [], _, _, j, h => by cases h
  | k :: r, _, ⟨_, e, e1, u⟩, j, h => by
    rcases List.mem_cons.mp h with rfl | h
    · exact lt_of_get e1
    · exact UpR.bound u j h
theorem TysOK.snoc {w : World} {R : Addr → Obj → Prop} {ts : List (Addr × TF)} {es : List BE} {dxs vxs rxs : List PySem.Str} (T : TysOK w R ts es dxs vxs) {at' : Nat} {p : Addr × TF} {js : List Nat} {x c n : Addr} {T' : TF} {cvs rvs : List Value}
    (hp : ts[at']? = some p) (hu : UpR es (at' : Int) js) (hz : es.length + 1 ≤ 10) (hr : rxs.length ≤ 10) (hty : TyH w R x T') (htag : T'.tagged = .bool true) (hnum : T'.numbered) (hnew : ∀ (j : Nat) (q : Addr × TF), ts[j]? = some q → q.2.num ≠ T'.num)
    (hd : T'.discs = p.2.discs) (hv : T'.variant = p.2.variant) (hpar : T'.parent = .ref p.1) (hc : T'.comps = .ref c) (hcR : R c (listOf (cvs ++ rvs).toArray n)) (hrows : RowsR R cvs (namesOf es js)) (hrows2 : RowsR R rvs rxs) (hjl : js.length < 10) (hnd : (dxs ++ vxs ++ namesOf es js ++ rxs).Nodup) :
    TysOK w R (ts ++ [(x, T')]) (es ++ [⟨(at' : Int), rxs⟩]) dxs vxs := by
  have hat : at' < es.length := T.len ▸ lt_of_get hp
  have hjb := hu.bound
  have hself : (es ++ [(⟨(at' : Int), rxs⟩ : BE)])[es.length]? = some ⟨(at' : Int), rxs⟩ := by simp
  have hup : UpR (es ++ [(⟨(at' : Int), rxs⟩ : BE)]) (es.length : Int) (es.length :: js) := ⟨rfl, _, hself, hu.mono⟩
  have hnm : namesOf (es ++ [(⟨(at' : Int), rxs⟩ : BE)]) (es.length :: js) = namesOf es js ++ rxs := by
    have : es.length :: js = [es.length] ++ js := rfl
    rw [this, namesOf_append, names_old hjb]
    congr 1
    unfold namesOf ownOf
    simp
  exact {
    len := by simp [T.len]
    small := by simpa using hz
    own := fun e he => by
      rcases List.mem_append.mp he with he | he
      · exact T.own e he
      · rw [List.mem_singleton.mp he]; exact hr
    up := fun i hi => by
      by_cases h : i < es.length
      · obtain ⟨ks, h1, h2, h3⟩ := T.up i h
        exact ⟨ks, h1.mono, h2, fun j hj => by have := h3 j hj; simp; omega⟩
      · have : i = es.length := by simp at hi; omega
        subst this
        exact ⟨_, hup, by simp; omega, hup.bound⟩
    nodup := fun i ks hi hk => by
      by_cases h : i < es.length
      · obtain ⟨ks', h1, h2, h3⟩ := T.up i h
        rw [hk.unique h1.mono, names_old h3]
        exact T.nodup i ks' h h1
      · have : i = es.length := by simp at hi; omega
        subst this
        rw [hk.unique hup, hnm, ← List.append_assoc]
        exact hnd
    ty := fun i q hq => by
      rcases get_snoc hq with h | ⟨_, rfl⟩
      · exact T.ty i q h
      · exact ⟨hty, htag, hnum⟩
    num := fun i j p' q hi hj e => by
      rcases get_snoc hi with h | ⟨h, rfl⟩ <;> rcases get_snoc hj with k | ⟨k, rfl⟩
      · exact T.num i j p' q h k e
      · exact absurd e (hnew i p' h)
      · exact absurd e.symm (hnew j q k)
      · omega
    discs := fun i q hq => by
      rcases get_snoc hq with h | ⟨_, rfl⟩
      · exact T.discs i q h
      · have := T.discs at' p hp
        rwa [← hd] at this
    comps := fun i q ks hq hk => by
      rcases get_snoc hq with h | ⟨h, rfl⟩
      · have hi : i < es.length := T.len ▸ lt_of_get h
        refine byNo fun hno => ?_
        obtain ⟨ks', h1, h2, h3⟩ := T.up i hi
        refine hno ?_
        clear hno
        rw [hk.unique h1.mono, names_old h3]
        exact T.comps i q ks' h h1
      · rw [h, T.len] at hk
        rw [hk.unique hup, hnm]
        exact ⟨c, n, _, hc, hcR, hrows.append hrows2⟩
    variant := fun i q hq => by
      rcases get_snoc hq with h | ⟨_, rfl⟩
      · exact T.variant i q h
      · have := T.variant at' p hp
        rwa [← hv] at this
    parent := fun i q e hq he => by
      rcases get_snoc hq with h | ⟨h, rfl⟩
      · rcases get_snoc he with k | ⟨k, _⟩
        · rcases T.parent i q e h k with z | ⟨k', p', z1, z2, z3⟩
          · exact .inl z
          · exact .inr ⟨k', p', z1, get_old z2, z3⟩
        · have := lt_of_get h; rw [T.len] at this; omega
      · rcases get_snoc he with k | ⟨k, rfl⟩
        · have := lt_of_get k; rw [← T.len] at this; omega
        · exact .inr ⟨at', p, rfl, get_old hp, hpar⟩ }
theorem TysOK.root {w : World} {R : Addr → Obj → Prop} {x : Addr} {T : TF} {dxs vxs cxs : List PySem.Str} (hty : TyH w R x T) (htag : T.tagged = .bool true) (hnum : T.numbered) (hpar : T.parent = .none)
    (hd : ∃ D n dvs, T.discs = .ref D ∧ R D (listOf dvs.toArray n) ∧ RowsR R dvs dxs) (hdl : dxs.length ≤ 10) (hc : ∃ c n cvs, T.comps = .ref c ∧ R c (listOf cvs.toArray n) ∧ RowsR R cvs cxs) (hcl : cxs.length ≤ 10) (hv : VarR R T.variant vxs) (hnd : (dxs ++ vxs ++ cxs).Nodup) :
    TysOK w R [(x, T)] [⟨-1, cxs⟩] dxs vxs := by
  have hup : UpR [(⟨-1, cxs⟩ : BE)] (0 : Nat) [0] := ⟨rfl, ⟨-1, cxs⟩, rfl, rfl⟩
  have hnm : namesOf [(⟨-1, cxs⟩ : BE)] [0] = cxs := by unfold namesOf ownOf; simp
  have one : ∀ (i : Nat) (q : Addr × TF), [(x, T)][i]? = some q → i = 0 ∧ q = (x, T) := fun i q h => by
    cases i with
    | zero => exact ⟨rfl, by simpa using h.symm⟩
    | succ i => simp at h
  have hlt : ∀ i, i < [(⟨-1, cxs⟩ : BE)].length → i = 0 := fun i h => by simpa using h
  exact {
    len := rfl
    small := by simp
    own := fun e he => by rw [List.mem_singleton.mp he]; exact hcl
    up := fun i hi => by rw [hlt i hi]; exact ⟨[0], hup, by simp, hup.bound⟩
    nodup := fun i ks hi hk => by
      rw [hlt i hi] at hk
      rw [hk.unique hup, hnm]; exact hnd
    ty := fun i q hq => by rw [(one i q hq).2]; exact ⟨hty, htag, hnum⟩
    num := fun i j p q hi hj _ => by rw [(one i p hi).1, (one j q hj).1]
    discs := fun i q hq => by
      rw [(one i q hq).2]
      refine byNo fun hno => ?_
      obtain ⟨D, n, dvs, h1, h2, h3⟩ := hd
      refine hno ?_
      clear hno
      exact ⟨D, n, dvs, h1, h2, h3, by rw [h3.1]; exact hdl⟩
    comps := fun i q ks hq hk => by
      refine byNo fun hno => ?_
      obtain ⟨rfl, rfl⟩ := one i q hq
      refine hno ?_
      clear hno
      rw [hk.unique hup, hnm]; exact hc
    variant := fun i q hq => by rw [(one i q hq).2]; exact hv
    parent := fun i q e hq he => by
      refine byNo fun hno => ?_
      obtain ⟨rfl, rfl⟩ := one i q hq
      refine hno ?_
      clear hno
      have : e = ⟨-1, cxs⟩ := by simpa using he.symm
      subst this
      exact .inl ⟨rfl, hpar⟩ }
end
section
open PySem PySem.W PyProof.Rows PySem.Calls PySem.SeqAt PySem.Spec PyProof.Rows.LCg
set_option maxRecDepth 100000
set_option maxHeartbeats 1000000
noncomputable def dedS (l : List PySem.Str) : List PySem.Str := l.foldl (fun acc k => if k ∈ acc then acc else acc ++ [k]) []
theorem dedS_snoc {l : List PySem.Str} {k : PySem.Str} : dedS (l ++ [k]) = if k ∈ dedS l then dedS l else dedS l ++ [k] := by unfold dedS; rw [List.foldl_append]; rfl
theorem dedS_of : ∀ (r l : List PySem.Str), (l ++ r).Nodup → r.foldl (fun acc k => if k ∈ acc then acc else acc ++ [k]) l = l ++ r
  | [], l, _ => (List.append_nil l).symm
  | k :: r, l, h => by
    have hk : k ∉ l := fun hm => by
      rw [List.nodup_append] at h
      exact h.2.2 k hm k List.mem_cons_self rfl
    rw [List.foldl_cons, if_neg hk, dedS_of r (l ++ [k]) (by simpa using h)]
    simp
theorem dedS_le : ∀ (r l : List PySem.Str), (r.foldl (fun acc k => if k ∈ acc then acc else acc ++ [k]) l).length ≤ l.length + r.length
  | [], l => Nat.le_refl _
  | k :: r, l => by
    rw [List.foldl_cons, List.length_cons]
    by_cases h : k ∈ l
    · rw [if_pos h]; have := dedS_le r l; omega
    · rw [if_neg h]; have := dedS_le r (l ++ [k]); rw [List.length_append, List.length_singleton] at this; omega
theorem dedS_lt : ∀ (r l : List PySem.Str), l.Nodup → ¬ (l ++ r).Nodup → (r.foldl (fun acc k => if k ∈ acc then acc else acc ++ [k]) l).length < l.length + r.length
  | [], l, h, k => absurd (by simpa using h) k
  | k :: r, l, h, hn => by
    rw [List.foldl_cons, List.length_cons]
    by_cases hk : k ∈ l
    · rw [if_pos hk]; have := dedS_le r l; omega
    · rw [if_neg hk]
      have := dedS_lt r (l ++ [k]) (nodup_snoc h hk) (by simpa using hn)
      rw [List.length_append, List.length_singleton] at this; omega
theorem dedS_len {l : List PySem.Str} : (dedS l).length = l.length ↔ l.Nodup := by
  constructor
  · intro h
    by_cases hn : l.Nodup
    · exact hn
    · have := dedS_lt l [] List.nodup_nil hn
      unfold dedS at h; simp at this; omega
  · intro h
    unfold dedS
    rw [dedS_of l [] h]; rfl
theorem stored_keys {kvs : List (PySem.Str × Value)} {k : PySem.Str} {v : Value} : (stored kvs k v).map (·.1) = if k ∈ kvs.map (·.1) then kvs.map (·.1) else kvs.map (·.1) ++ [k] := by
  by_cases h : k ∈ kvs.map (·.1)
  · rw [if_pos h]
    unfold stored
    have : kvs.any (fun kv => kv.1 = k) = true := by
      obtain ⟨p, hp, rfl⟩ := List.mem_map.mp h
      rw [List.any_eq_true]
      exact ⟨p, hp, by simp⟩
    rw [if_pos this, List.map_map]
    apply List.map_congr_left
    intro p _
    dsimp only [Function.comp]
    split <;> rfl
  · rw [if_neg h, stored_end h, List.map_append]; rfl
theorem stored_len {kvs : List (PySem.Str × Value)} {k : PySem.Str} {v : Value} : (stored kvs k v).length ≤ kvs.length + 1 := by
  unfold stored
  split
  · rw [List.length_map]; omega
  · rw [List.length_append]; simp
section
variable {prog : Program} {w : World} {A : Around} {E : Value → Shared → Prop} {s : Shared} {h₀ : Heap} {L d : Addr} {m : FMap} {env : Env} {news : List (Addr × Obj)} {Q : Value → Shared → Prop}
noncomputable def OnesSrc (prog : Program) (w : World) (h₀ : Heap) (L : Addr) (m : FMap) (Q : Value → Shared → Prop) (xv : Value) (s₁ : Shared) : Prop :=
  ∃ (l : Addr) (vs : List Value) (ks : List PySem.Str) (news : List (Addr × Obj)), xv = .ref l ∧ Fr h₀ L s₁.heap m ∧ News h₀ L s₁.heap news ∧ s₁.heap.IsList l vs.toArray ∧ StrsAre vs ks ∧ ks.length ≤ 1000 ∧
    ∀ D oD h' tk kvs, Fr h₀ L h' m → News h₀ L h' ((D, oD) :: news) → Off1 D news → (D == sysModules) = false → oD.IsDictOf (PySem.strKind prog w) kvs → kvs.map (·.1) = dedS ks → Q (.ref D) { s₁ with heap := h', toks := tk }
theorem dictcomp_ones {iter : PySem.Expr} {x : PySem.Str} {c0 : Nat} {p1 p2 px pos : Pos} {scope : Scope} {cl : List (PySem.Str × Addr)} (F₀ : Fr h₀ L s.heap m) (hbig : sysModules < h₀.objs.size) (hh : A.handled = none)
    (hclos : closureFor scope env = pure cl) (hcell : ∀ y ∈ scope.names, y.2 ≠ .cell) (hkind : scope.kind = .function)
    (hnames : ∀ y ∈ scope.names, y.2 = .local → scope.names.lookup y.1 = some .local) (hx : scope.names.lookup x = some .local) (hdx : (x == ("__debug__" : Str)) = false)
    (h : wpAny (model prog w) A (eval iter env) (OnesSrc prog w h₀ L m Q) E s)
    (hs : ∀ x, foldedSetIterable iter env x = pure x := by intro _; rfl) :
    wpAny (model prog w) A (eval (.DictComp (.Name x p1) (.Constant (.int 1) c0 p2) [⟨.Name x px, iter, [], 0⟩] scope pos) env) Q E s := by
  have _ := F₀
  rw [arm_eval_DictComp]
  refine wpAny_comprehension_free (use := none) rfl hs hclos hkind hnames (wpAny_mono h (fun x0 s₁ h₁ => ?_) fun _ _ z => z)
  refine byNo fun hno => ?_
  obtain ⟨l, vs, ks, news, rfl, F, N, hL, hst, hz, ret⟩ := h₁
  refine hno ?_
  clear hno
  have hlt : @LT.lt Nat _ l s₁.heap.objs.size := by obtain ⟨_, e, _⟩ := hL; exact Heap.lt_size e
  refine wpAny_pyIter_list hL ?_
  generalize ei : ({ cls := .type "list_iterator", data := .fields #[.ref l, .int 0 0] } : Obj) = oi
  have up : ∀ b o, s₁.heap.get? b = some o → (s₁.heap.push oi).get? b = some o := fun b o e => Heap.get?_push_of_some _ e
  refine dict_block (RR := fun acc C => compPost (model prog w) A E none Q acc C) hcell hkind ?_
  dsimp only
  rw [Heap.size_push]
  intro h₁ tk m₁ hns hnew old
  have W := Walks.list (prog := prog) (w := w) hh s₁.heap.objs.size l (Nat.ne_of_lt hlt) vs.toArray
  have hst0 : h₁.IsListIter s₁.heap.objs.size l 0 ∧ h₁.IsList l vs.toArray := ⟨⟨_, old _ _ (Heap.get?_push_size _ (by subst ei; rfl)), by subst ei; rfl, by subst ei; rfl⟩, hL.at fun o e => old _ _ (up _ _ e)⟩
  refine ⟨fun Q E hq => W.self 0 _ _ _ hst0 hq, ?_⟩
  generalize hI : s₁.heap.objs.size = I at *
  have hDC : I + 1 ≠ I + 1 + 1 := Nat.ne_of_lt (Nat.lt_succ_self _)
  have hDI : I + 1 ≠ I := Nat.succ_ne_self _
  have hCI : I + 1 + 1 ≠ I := Nat.ne_of_gt (Nat.lt_succ_of_lt (Nat.lt_succ_self _))
  have hlen : vs.toArray.size = ks.length := by rw [List.size_toArray]; exact hst.length
  have hp : ∀ b o, s₁.heap.get? b = some o → b ≠ I ∧ b ≠ I + 1 ∧ b ≠ I + 1 + 1 := fun b o q => by
    have lb : @LT.lt Nat _ b I := hI ▸ Heap.lt_size q
    exact ⟨Nat.ne_of_lt lb, Nat.ne_of_lt (Nat.lt_succ_of_lt lb), Nat.ne_of_lt (Nat.lt_succ_of_lt (Nat.lt_succ_of_lt lb))⟩
  have hkx : (compEnvC scope cl (I + 1 + 1) env).kindOf x = some .local := lookup_relabel_local hx
  have hcc : ((compEnvC scope cl (I + 1 + 1) env).scope.kind == .class || ((compEnvC scope cl (I + 1 + 1) env).scope.kind == .module && (compEnvC scope cl (I + 1 + 1) env).locals != (compEnvC scope cl (I + 1 + 1) env).globals)) = false := by simp [compEnvC, relabel, hkind]
  have hkf : (compEnvC scope cl (I + 1 + 1) env).scope.kind = .function := by simp [compEnvC, relabel, hkind]
  refine codeAny_loop rfl (fun n s' => ∃ h' tk m' i kvs, s' = { s₁ with heap := h', toks := tk } ∧ i ≤ vs.toArray.size ∧ n = vs.toArray.size + 1 - i ∧ (h'.IsListIter I l i ∧ h'.IsList l vs.toArray) ∧ h'.Ns (I + 1 + 1) m' ∧ h'.DictOf (PySem.strKind prog w) (I + 1) kvs ∧
      kvs.map (·.1) = dedS (ks.take i) ∧ kvs.length ≤ i ∧ ∀ b o, s₁.heap.get? b = some o → h'.get? b = some o) ?_ (vs.toArray.size + 1)
    ⟨h₁, tk, m₁, 0, [], rfl, Nat.zero_le _, rfl, hst0, hns, hnew, rfl, Nat.le_refl _, fun b o q => old b o (up b o q)⟩
  intro n s' hq2
  refine byNo fun hno => ?_
  obtain ⟨H, tk₁, m', i, kvs, rfl, hi, rfl, hst', hns', hD', hks, hkl, hkp⟩ := hq2
  refine hno ?_
  clear hno
  show wpAny _ A ((compTurn _ 0 _ (.ref (I + 1)) _).onRaise _) _ _ _
  refine wpAny_noted ?_
  rw [compTurn_dict]
  refine wpAny_bind (wpAny_standAt (wpAny_bind ?_))
  by_cases hlt : i < vs.toArray.size
  · refine W.item i _ _ _ hlt hst' fun v h₂ tk₂ hPt hst2 hk2 => ?_
    refine byNo fun hno => ?_
    obtain ⟨k, tx, hkx2, rfl⟩ := strs_get hst i v (by simpa using hPt)
    refine hno ?_
    clear hno
    refine wpAny_bind (wpAny_of_eq rfl ?_)
    have k12 : ∀ b o, b ≠ I → H.get? b = some o → h₂.get? b = some o := fun b o hb q => hk2 b o (by simpa using hb) q
    have hns2 : h₂.Ns (I + 1 + 1) m' := hns'.at' fun o q => k12 _ o hCI q
    refine wpAny_bind (wpAny_assign_Name (wpAny_storeName_local hkx hns2 (fun h₅ hns5 hs5 => ?_) hcc))
    have k15 : ∀ b o, b ≠ I → b ≠ I + 1 + 1 → H.get? b = some o → h₅.get? b = some o := fun b o h1 h2 q => hs5.extBut b o h2 (k12 b o h1 q)
    have hst5 := W.frame _ _ h₅ hst2 fun b hb o q => hs5.extBut b o (by
      simp only [List.mem_cons, List.not_mem_nil, or_false] at hb
      rcases hb with rfl | rfl
      · exact Ne.symm hCI
      · obtain ⟨_, e, _⟩ := hL; exact (hp _ _ e).2.2) q
    have hD5 : h₅.DictOf (PySem.strKind prog w) (I + 1) kvs := hD'.at fun o q => k15 _ o hDI hDC q
    refine wpAny_bind ?_
    rw [List.forIn_nil]
    refine wpAny_pure ?_
    dsimp only
    rw [if_pos rfl]
    refine wpAny_bind (wpAny_bind (wpAny_Name (wpAny_loadName_local hkf hkx hns5 (if_pos rfl) ?_) hdx))
    refine wpAny_bind (wpAny_holding (wpAny_Constant_int ?_))
    refine wpAny_bind (wpAny_standAt (wpAny_holding ?_))
    have hkl2 : kvs.length ≤ 1000 := by omega
    refine wpAny_dictSet_pairs (hsz := by rw [sizeLine_eq]; omega) (strKind_is prog w k tx) hD5 fun h₇ hD7 hs7 => ?_
    refine wpAny_pure ⟨rfl, vs.toArray.size + 1 - (i + 1), by omega, h₇, _, _, i + 1, _, rfl, hlt, rfl, ?_, hns5.sameBut hs7 (Ne.symm hDC), hD7, ?_, ?_, fun b o q => let z := hp b o q; hs7.extBut b o z.2.1 (k15 b o z.1 z.2.2 (hkp b o q))⟩
    · exact W.frame _ _ h₇ hst5 fun b hb o q => hs7.extBut b o (by
        simp only [List.mem_cons, List.not_mem_nil, or_false] at hb
        rcases hb with rfl | rfl
        · exact Ne.symm hDI
        · obtain ⟨_, e, _⟩ := hL; exact (hp _ _ e).2.1) q
    · rw [stored_keys, take_snoc hkx2, dedS_snoc, hks]
    · exact Nat.le_trans stored_len (by omega)
  · have hin : i = vs.toArray.size := Nat.le_antisymm hi (Nat.not_lt.mp hlt)
    subst hin
    refine W.done _ _ _ hst' fun h₂ tk₂ hk2 => ?_
    refine wpAny_pure ?_
    have k12 : ∀ b o, b ≠ I → H.get? b = some o → h₂.get? b = some o := fun b o hb q => hk2 b o (by simpa using hb) q
    refine ⟨m', hns'.at' fun o q => k12 _ o hCI q, fun h'' hs'' => ?_⟩
    refine byNo fun hno => ?_
    obtain ⟨oD, ho, hdo⟩ := Heap.dictOf_iff.mp ((hD'.at fun o q => k12 _ o hDI q : h₂.DictOf (PySem.strKind prog w) (I + 1) kvs).extBut hs''.extBut hDC)
    refine hno ?_
    clear hno
    have kk : ∀ b o, s₁.heap.get? b = some o → h''.get? b = some o := fun b o q => let z := hp b o q; hs''.extBut b o z.2.2 (k12 b o z.1 (hkp b o q))
    obtain ⟨F', N', o1⟩ := fresh_led F N kk (by rw [hI]; exact Nat.le_succ _) ho
    refine ret _ oD h'' tk₂ kvs F' N' o1 ?_ hdo (by rw [hks, hlen, List.take_length])
    have := (F.push oi).notModules hbig
    rwa [Heap.size_push, hI] at this
end
end
section
open PySem PySem.W PyProof.Rows PySem.Calls PySem.SeqAt PySem.Spec PyProof.Rows.LCg
set_option maxRecDepth 100000
set_option maxHeartbeats 1000000
noncomputable def funBody : Stmt → List Stmt
  | .FunctionDef _ _ b _ _ _ _ _ _ _ => b
  | _ => []
noncomputable def funScope : Stmt → Scope
  | .FunctionDef _ _ _ _ _ _ s _ _ _ => s
  | _ => { kind := .function, names := [], isGenerator := false, isCoroutine := false, more := [] }
noncomputable def lawDef : Stmt := (PySem.Challenge.pw_pb0010_01.main.body.getLast?).getD (.Pass default)
noncomputable abbrev lawEnv (L f : Addr) (cd : Value) : Env := envOfC (Str.ofString "law") (funScope lawDef) L f cd
inductive RowsJ (w : World) (bag used scr : Addr) (pre tl0 : List (Addr × Obj)) (lim : Int) (xs0 : List PySem.Str) (i : Nat) (ys : List Value) (news : List (Addr × Obj)) : Prop
  | mk (ob' : Obj) (us : List Value) (n : Nat) (rxs : List PySem.Str) (tl : List (Addr × Obj)) (h0 : news = (bag, ob') :: (used, listOf us.toArray n) :: (pre ++ tl)) (h1 : (∀ p ∈ tl0, p ∈ tl)) (h2 : Off1 bag tl) (h3 : Off1 used tl) (h4 : (∀ q ∈ pre, Off1 q.1 tl)) (h5 : BagO w scr (lim + 2 * i) ob') (h6 : StrsAre us (xs0 ++ rxs)) (h7 : rxs.length = i) (h8 : RowsR (InL tl) ys rxs) : RowsJ w bag used scr pre tl0 lim xs0 i ys news
section
variable {w : World} {mean : ExcName → Option Value} {mg mb : PySem.Str → Option Value} {dp un : Nat} {gd : Option (List Code)} {env : Env} {outer : List Env} {A₀ : Around} {base h₀ : Heap} {L : Addr} {m : PySem.Str → Option Value} {s : Shared} {Q : Value → Shared → Prop} {E : Value → Shared → Prop} {news : List (Addr × Obj)}
theorem off1_split {a : Addr} {l r : List (Addr × Obj)} (h : Off1 a l) (k : Off1 a r) : Off1 a (l ++ r) := off1_of fun p hp => (List.mem_append.mp hp).elim (off1_mem h p) (off1_mem k p)
theorem row_step {I C D bag used scr : Addr} {oI oC ob' : Obj} {ys us : List Value} {n i : Nat} {pre tl tl0 : List (Addr × Obj)} {lim : Int} {xs0 rxs : List PySem.Str} {whole : Value} (B : Below A₀ base outer h₀) (F : Fr h₀ L s.heap m) (X : (hd.heap_1 w.params).In h₀) (T : TP mean mg mb h₀)
    (N : News h₀ L s.heap ((I, oI) :: (C, oC) :: (D, lst ys) :: (bag, ob') :: (used, listOf us.toArray n) :: (pre ++ tl))) (hf : env.frame = some L) (hk : env.scope.kind = .function) (hd : dp + 40 < recursionLimit) (hu : un + 3000 < cLine) (hS : ScrR (InL tl) scr)
    (hl : lim + 2 * i + 10 < 1000) (hz : xs0.length + i ≤ 100) (tsub : ∀ p ∈ tl0, p ∈ tl) (t1 : Off1 bag tl) (t2 : Off1 used tl) (tp : ∀ q ∈ pre, Off1 q.1 tl) (p1 : Off1 bag pre) (p2 : Off1 used pre) (n3 : @Ne Nat bag used) (hb : BagO w scr (lim + 2 * i) ob') (hus : StrsAre us (xs0 ++ rxs)) (hrl : rxs.length = i) (hR : RowsR (InL tl) ys rxs)
    (off : Off3 I C D ((bag, ob') :: (used, listOf us.toArray n) :: (pre ++ tl))) :
    wpAny (model PySem.Challenge.rw_pb0010_01.row.prog w) (topA dp un gd env outer) (call (.ref 218) [.ref bag, whole, .ref used]) (CompEnd h₀ L m s I oI C oC D (lst ys) (fun _ => True) (fun y news' => RowsJ w bag used scr pre tl0 lim xs0 (i + 1) (ys ++ [y]) news')) E s := by
  have hsm : ∃ o, (scr, o) ∈ tl := by obtain ⟨vs, k, ns, e, r⟩ := hS; exact ⟨_, e⟩
  refine byNo fun hno => ?_
  obtain ⟨so, hso⟩ := hsm
  refine hno ?_
  clear hno
  have n1 : @Ne Nat scr bag := off1_mem t1 _ hso
  have n2 : @Ne Nat scr used := off1_mem t2 _ hso
  have mtl : ∀ p ∈ tl, p ∈ (I, oI) :: (C, oC) :: (D, lst ys) :: (bag, ob') :: (used, listOf us.toArray n) :: (pre ++ tl) := fun p hp => by simp [hp]
  refine byNo fun hno => ?_
  obtain ⟨⟨a1, a2, a3⟩, ⟨b1, b2, b3⟩, off'⟩ := off
  refine hno ?_
  clear hno
  have om := Off3.mem off'
  refine Spec.use2 (row_spec w mean mg mb bag scr used whole ob' (lim + 2 * i) us n (xs0 ++ rxs) hb (by omega) hus (by rw [List.length_append]; omega) n1 n2 n3) B F X N T hf hk hd hu (hS.mono fun a o e => (N _ (mtl _ e)).1) (by simp) (by simp) ((I, oI) :: (C, oC) :: (D, lst ys) :: (pre ++ tl)) (fun p hp => ?_) ?_
  · simp only [List.mem_cons] at hp
    rcases hp with h | h | h | h
    · subst h; exact ⟨by simp, Ne.symm a1, Ne.symm b1⟩
    · subst h; exact ⟨by simp, Ne.symm a2, Ne.symm b2⟩
    · subst h; exact ⟨by simp, Ne.symm a3, Ne.symm b3⟩
    · exact ⟨by simp only [List.mem_cons]; exact .inr (.inr (.inr (.inr (.inr h)))), off1_mem (off1_split p1 t1) p h, off1_mem (off1_split p2 t2) p h⟩
  intro r ob3 uo3 new h4 tk4 F4 N4 ap4 K4 hq10
  refine byNo fun hno => ?_
  obtain ⟨x, t, ob4, n4, e, hb4, hrv, hx0⟩ := hq10
  refine hno ?_
  clear hno
  refine byNo fun hno => ?_
  obtain ⟨e1, e2⟩ := List.cons.inj e
  obtain ⟨-, rfl⟩ := Prod.mk.inj e1
  obtain ⟨-, rfl⟩ := Prod.mk.inj (List.cons.inj e2).1
  refine hno ?_
  clear hno
  clear e e1 e2
  have apI : ∀ p ∈ new, @Ne Nat p.1 I := fun p hp => (ap4 (I, oI) (by simp) p hp).symm
  have apC : ∀ p ∈ new, @Ne Nat p.1 C := fun p hp => (ap4 (C, oC) (by simp) p hp).symm
  have apD : ∀ p ∈ new, @Ne Nat p.1 D := fun p hp => (ap4 (D, lst ys) (by simp) p hp).symm
  refine CompEnd.intro F4 N4 ((bag, ob3) :: (used, listOf (us ++ [Value.str x t]).toArray n4) :: (pre ++ (new ++ tl))) ?_ ?_ trivial ⟨ob3, us ++ [Value.str x t], n4, rxs ++ [x], new ++ tl, rfl, fun p hp => List.mem_append_right _ (tsub p hp), off1_split (off1_of fun p hp => (ap4 (bag, ob3) (by simp) p hp).symm) t1, off1_split (off1_of fun p hp => (ap4 (used, listOf (us ++ [Value.str x t]).toArray n4) (by simp) p hp).symm) t2, fun q hq => off1_split (off1_of fun p hp => (ap4 q (by simp [hq]) p hp).symm) (tp q hq), hb4.more (by omega), ?_, by rw [List.length_append, hrl]; rfl, ?_⟩
  · intro p hp
    simp only [List.mem_cons, List.mem_append] at hp ⊢
    rcases hp with h | h | h | h | h | h | h | h <;> simp [h]
  · refine ⟨⟨a1, a2, a3⟩, ⟨b1, b2, b3⟩, Off3.of fun p hp => ?_⟩
    rcases List.mem_append.mp hp with h | h
    · exact om p (List.mem_append_left _ h)
    rcases List.mem_append.mp h with h | h
    · exact ⟨apI p h, apC p h, apD p h⟩
    · exact om p (List.mem_append_right _ h)
  · rw [← List.append_assoc]; exact hus.append' (.cons x t .nil)
  · exact RowsR.snoc (hR.mono fun a o e => List.mem_append_right _ e) (hrv.mono fun a o e => List.mem_append_left _ e)
theorem extended_use {p rl : Addr} {n : Nat} {TT : TF} {dvs cvs rvs : List Value} {dxs cxs ys rxs : List PySem.Str} {name number line : Value} (B : Below A₀ h₀ [] h₀) (F : Fr h₀ L s.heap m) (X : (hd.heap_1 w.params).In h₀) (N : News h₀ L s.heap news) (T : TP mean mg mb h₀)
    (hf : env.frame = some L) (hk : env.scope.kind = .function) (hd : dp + 80 < recursionLimit) (hu : un + 7000 < cLine) (hz : dvs.length ≤ 100 ∧ cvs.length ≤ 100 ∧ rvs.length ≤ 100 ∧ ys.length ≤ 100) (hnm : handedIn name = true) (hnu : handedIn number = true) (hli : handedIn line = true)
    (hP : TypeH w (At s.heap) p TT dvs cvs dxs cxs ys) (hrl : At s.heap rl (listOf rvs.toArray n)) (hrr : RowsR (At s.heap) rvs rxs)
    (ok : (dxs ++ cxs ++ ys ++ rxs).Nodup → ∀ x d op od oo T' D n' h' tk', Fr h₀ L h' m → News h₀ L h' ((D, listOf (cvs ++ rvs).toArray n') :: (op, oo) :: (x, instObj 94 d) :: (d, od) :: news) → Off1 D news ∧ Off1 op news ∧ Off1 x news ∧ Off1 d news → TyDict w T' od → oo.IsDictOf (SK w) [] → (op == sysModules) = false ∧ T'.handed = true →
      T'.parent = .ref p ∧ T'.number = number ∧ T'.comps = .ref D ∧ T'.discs = TT.discs ∧ T'.variant = TT.variant ∧ T'.tagged = .bool true ∧ T'.ops = .ref op → Q (.ref x) { s with heap := h', toks := tk' })
    (no : ¬ (dxs ++ cxs ++ ys ++ rxs).Nodup → ∀ h' tk', Fr h₀ L h' m → News h₀ L h' news → Q line { s with heap := h', toks := tk' }) :
    wpAny (model PySem.Challenge.rw_pb0010_01.row.prog w) (topA dp un gd env []) (call (.ref 230) [.ref p, name, number, .ref rl, line]) Q E s := by
  refine SpecC.use (extended_spec w mean mg mb p rl n TT dvs cvs rvs dxs cxs ys rxs name number line hz hnm hnu hli) B F X N T hf hk hd hu ⟨hP, hrl, hrr⟩ ?_
  rintro r new h' tk' F' N' hne (⟨hn, x, d, op, od, oo, T', D, n', rfl, h1, h2, h3, h4, h5, h6, h7, h8, h9, h10, h11, rfl⟩ | ⟨hn, rfl, rfl⟩)
  · exact ok hn x d op od oo T' D n' h' tk' F' N' ⟨off1_of fun q hq => hne q hq _ (.head _), off1_of fun q hq => hne q hq _ (.tail _ (.head _)), off1_of fun q hq => hne q hq _ (.tail _ (.tail _ (.head _))), off1_of fun q hq => hne q hq _ (.tail _ (.tail _ (.tail _ (.head _))))⟩ h1 h9 ⟨h10, h11⟩ ⟨h2, h3, h4, h5, h6, h7, h8⟩
  · exact no hn h' tk' F' N'
theorem root_use {bag used scr : Addr} {whole : Value} {ob : Obj} {lim : Int} {n : Nat} (B : Below A₀ base outer h₀) (F : Fr h₀ L s.heap m) (X : (hd.heap_1 w.params).In h₀) (N : News h₀ L s.heap news) (T : TP mean mg mb h₀) (hf : env.frame = some L) (hk : env.scope.kind = .function)
    (hd : dp + 60 < recursionLimit) (hu : un + 5000 < cLine) (hb : BagO w scr lim ob) (hl : lim + 20 < 1000) (hS : ScrR (At s.heap) scr) (n1 : @Ne Nat scr bag) (n2 : @Ne Nat scr used) (n3 : @Ne Nat bag used) (m1 : (bag, ob) ∈ news) (m2 : (used, listOf #[] n) ∈ news) (rest : List (Addr × Obj)) (hr : ∀ p ∈ rest, p ∈ news ∧ @Ne Nat p.1 bag ∧ @Ne Nat p.1 used)
    (ret : ∀ x TT dxs vxs cxs ob' us' xs' n' new h' tk', Fr h₀ L h' m → News h₀ L h' ((bag, ob') :: (used, listOf us'.toArray n') :: (rest ++ new)) → (∀ q ∈ (bag, ob') :: (used, listOf us'.toArray n') :: rest, Off1 q.1 new) → BagO w scr (lim + 6) ob' → StrsAre us' xs' → xs'.length ≤ 5 → RootR w (InL new) x TT dxs vxs cxs → Q (.ref x) { s with heap := h', toks := tk' }) :
    wpAny (model PySem.Challenge.rw_pb0010_01.row.prog w) (topA dp un gd env outer) (call (.ref 223) [.ref bag, whole, .ref used]) Q E s := by
  refine Spec.use2 (root_spec w mean mg mb bag scr used whole ob lim n hb hl n1 n2 n3) B F X N T hf hk hd hu hS m1 m2 rest hr ?_
  intro r o1 o2 new h' tk' F' N' ap K hq10
  refine byNo fun hno => ?_
  obtain ⟨x, TT, dxs, vxs, cxs, ob', us', xs', n', rfl, e, hb', hus, hxl, hR⟩ := hq10
  refine hno ?_
  clear hno
  refine byNo fun hno => ?_
  obtain ⟨e1, e2⟩ := List.cons.inj e
  obtain ⟨-, rfl⟩ := Prod.mk.inj e1
  obtain ⟨-, rfl⟩ := Prod.mk.inj (List.cons.inj e2).1
  refine hno ?_
  clear hno
  refine ret x TT dxs vxs cxs o1 us' xs' n' new h' tk' F' (fun p hp => N' p ?_) (fun q hq => off1_of fun p hp => (ap q hq p hp).symm) hb' hus hxl hR
  simp only [List.mem_cons, List.mem_append] at hp ⊢
  rcases hp with h | h | h | h <;> simp [h]
end
theorem TysOK.typeH {w : World} {R : Addr → Obj → Prop} {ts : List (Addr × TF)} {es : List BE} {dxs vxs : List PySem.Str} (T : TysOK w R ts es dxs vxs) {i : Nat} {q : Addr × TF} {js : List Nat} (hq : ts[i]? = some q) (hu : UpR es (i : Int) js) (hl : js.length ≤ 10) :
    ∃ dvs cvs, TypeH w R q.1 q.2 dvs cvs dxs (namesOf es js) vxs ∧ dvs.length ≤ 100 ∧ cvs.length ≤ 100 ∧ vxs.length ≤ 100 := by
  refine byNo fun hno => ?_
  obtain ⟨D, n, dvs, h1, h2, h3, h4⟩ := T.discs i q hq
  obtain ⟨c, k, cvs, g1, g2, g3⟩ := T.comps i q js hq hu
  refine hno ?_
  clear hno
  have hv := T.variant i q hq
  refine ⟨dvs, cvs, ⟨(T.ty i q hq).1, ⟨D, n, h1, h2⟩, ⟨c, k, g1, g2⟩, h3, g3, hv, (T.ty i q hq).2.1⟩, by omega, ?_, ?_⟩
  · have := names_len (js := js) T.own
    rw [g3.1]; omega
  · rcases hv with ⟨_, rfl⟩ | ⟨_, _, _, _, _, _, _, _, _, _, _, _, _, _, _, _, _, rfl⟩ <;> simp
theorem pair_spec (w : World) (mean mg mb) (L : Addr) (tl : List (Addr × Obj)) (ts : List (Addr × TF)) (es : List BE) (dxs vxs : List PySem.Str) (bl tyl : Addr) (bs : List Value) (nb nt : Nat) (i j : Nat) (t1 t2 t3 : Tok) (ln : Int)
    (T : TysOK w (InL tl) ts es dxs vxs) (hE : EntsR w (InL tl) bs es) (hF : FixR w (InL tl) bs (dxs ++ vxs)) (hb : InL tl bl (listOf bs.toArray nb)) (ht : InL tl tyl (listOf (ts.map fun p => Value.ref p.1).toArray nt)) (hi : i < es.length) (hj : j < es.length) (hd : (dxs ++ vxs).length ≤ 10) :
    SpecD L w mean mg mb 249 [.ref bl, .ref tyl, .int (i : Int) t1, .int (j : Int) t2, .int ln t3] 120 9000 (fun h => ∀ p ∈ tl, At h p.1 p.2 ∧ p.1 ≠ L) (fun r new => r = .bool true ∧ new = []) := by
  refine byNo fun hno => ?_
  obtain ⟨is, hui, _, _⟩ := T.up i hi
  obtain ⟨js, huj, _, _⟩ := T.up j hj
  refine hno ?_
  clear hno
  by_cases ha : j ∈ is
  · exact pair_up w mean mg mb L tl ts es dxs vxs bl tyl bs nb nt i j t1 t2 t3 ln T hE hF hb ht hi hj hd fun is' h => by rw [h.unique hui]; exact ha
  · by_cases hb2 : i ∈ js
    · exact pair_down w mean mg mb L tl ts es dxs vxs bl tyl bs nb nt i j t1 t2 t3 ln T hE hF hb ht hi hj hd (fun is' h => by rw [h.unique hui]; exact ha) fun js' h => by rw [h.unique huj]; exact hb2
    · exact pair_no w mean mg mb L tl ts es dxs vxs bl tyl bs nb nt i j t1 t2 t3 ln T hE hF hb ht hi hj hd (fun is' h => by rw [h.unique hui]; exact ha) fun js' h => by rw [h.unique huj]; exact hb2
end
section
open PySem PySem.W PyProof.Rows PySem.Calls PySem.SeqAt PySem.Spec PyProof.Rows.LCg
set_option maxRecDepth 100000
set_option maxHeartbeats 1000000
noncomputable def forBody : Stmt → List Stmt
  | .For _ _ b _ _ => b
  | _ => []
noncomputable def lawTurn : List Stmt := forBody ((funBody lawDef).getD 6 (.Pass default))
structure LawOK (w : World) (tl : List (Addr × Obj)) (scr wh fx : Addr) (bs : List Value) (ts : List (Addr × TF)) (es : List BE) (dxs vxs : List PySem.Str) : Prop where
  scr : ScrR (InL tl) scr
  whole : ∃ W t, TyH w (InL tl) wh W ∧ W.number = .int 5 t
  fixed : ∃ fvs n, (fx, listOf fvs.toArray n) ∈ tl ∧ StrsAre fvs (dxs ++ vxs)
  tys : TysOK w (InL tl) ts es dxs vxs
  ents : EntsR w (InL tl) bs es
  fix : FixR w (InL tl) bs (dxs ++ vxs)
  dlen : (dxs ++ vxs).length ≤ 2
theorem FixR.mono {w : World} {R R' : Addr → Obj → Prop} {bs : List Value} {fs : List PySem.Str} (h : FixR w R bs fs) (k : ∀ a o, R a o → R' a o) : FixR w R' bs fs := by
  refine byNo fun hno => ?_
  obtain ⟨d, od, par, tk, oA, fA, ws, n, h1, h2, h3, h4, h5⟩ := h
  refine hno ?_
  clear hno
  exact ⟨d, od, par, tk, oA, fA, ws, n, h1, k _ _ h2, h3, k _ _ h4, h5⟩
theorem FixR.snoc {w : World} {R : Addr → Obj → Prop} {bs : List Value} {fs : List PySem.Str} {v : Value} (h : FixR w R bs fs) : FixR w R (bs ++ [v]) fs := by
  refine byNo fun hno => ?_
  obtain ⟨d, od, par, tk, oA, fA, ws, n, h1, h2, h3, h4, h5⟩ := h
  refine hno ?_
  clear hno
  exact ⟨d, od, par, tk, oA, fA, ws, n, get_old h1, h2, h3, h4, h5⟩
theorem LawOK.mono {w : World} {tl tl' : List (Addr × Obj)} {scr wh fx : Addr} {bs : List Value} {ts : List (Addr × TF)} {es : List BE} {dxs vxs : List PySem.Str} (h : LawOK w tl scr wh fx bs ts es dxs vxs) (k : ∀ p ∈ tl, p ∈ tl') : LawOK w tl' scr wh fx bs ts es dxs vxs where
  scr := h.scr.mono fun a o e => k _ e
  whole := let ⟨W, t, h1, h2⟩ := h.whole; ⟨W, t, h1.mono fun a o e => k _ e, h2⟩
  fixed := let ⟨fvs, n, h1, h2⟩ := h.fixed; ⟨fvs, n, k _ h1, h2⟩
  tys := h.tys.mono fun a o e => k _ e
  ents := h.ents.mono fun a o e => k _ e
  fix := h.fix.mono fun a o e => k _ e
  dlen := h.dlen
noncomputable abbrev lawPre (L bk tyl : Addr) (bo to o1 o2 o3 o4 o5 o6 : Obj) : List (Addr × Obj) := [(bk, bo), (tyl, to), (L + 1 + 1 + 1 + 1 + 1 + 1, o6), (L + 1 + 1 + 1 + 1 + 1, o5), (L + 1 + 1 + 1 + 1, o4), (L + 1 + 1 + 1, o3), (L + 1 + 1, o2), (L + 1, o1)]
noncomputable def LawOff (L bag used bk tyl : Addr) (tl : List (Addr × Obj)) : Prop := ∀ a ∈ [bag, used, bk, tyl, L + 1 + 1 + 1 + 1 + 1 + 1, L + 1 + 1 + 1 + 1 + 1, L + 1 + 1 + 1 + 1, L + 1 + 1 + 1, L + 1 + 1, L + 1], Off1 a tl
noncomputable abbrev lawMap (bk fx : Addr) (mR : FMap) : FMap := fun y => if y = Str.ofString "book" then some (.ref bk) else if y = Str.ofString "fixed" then some (.ref fx) else mR y
noncomputable abbrev turnNames : List PySem.Str := [Str.ofString "turn", Str.ofString "at", Str.ofString "rows", Str.ofString "names", Str.ofString "line", Str.ofString "made"]
inductive LawJ (w : World) (L bag used bk tyl scr wh fx : Addr) (o1 o2 o3 o4 o5 o6 : Obj) (mR : FMap) (dxs vxs : List PySem.Str) (lim : Int) (i : Nat) (m₁ : FMap) (news₁ : List (Addr × Obj)) : Prop
  | mk (v1 v2 v3 v4 v5 v6 : Option Value) (ob : Obj) (us : List Value) (n1 : Nat) (xs : List PySem.Str) (bs : List Value) (n2 n3 : Nat) (ts : List (Addr × TF)) (es : List BE) (tl : List (Addr × Obj)) (h0 : m₁ = setAll (lawMap bk fx mR) [(Str.ofString "turn", v1), (Str.ofString "at", v2), (Str.ofString "rows", v3), (Str.ofString "names", v4), (Str.ofString "line", v5), (Str.ofString "made", v6)]) (h1 : news₁ = (bag, ob) :: (used, listOf us.toArray n1) :: (lawPre L bk tyl (listOf bs.toArray n2) (listOf (ts.map fun p => Value.ref p.1).toArray n3) o1 o2 o3 o4 o5 o6 ++ tl)) (h2 : LawOff L bag used bk tyl tl) (h3 : LawOK w tl scr wh fx bs ts es dxs vxs) (h4 : BagO w scr (lim + 10 * i) ob) (h5 : StrsAre us xs) (h6 : xs.length ≤ 5 + 3 * i) (h7 : es.length ≤ 1 + i) (h8 : (∀ (j : Nat) (q : Addr × TF), ts[j]? = some q → q.2.num < 60 + i)) (h9 : 0 < es.length) (h10 : (∀ (k : Nat) (ks : List Nat), UpR es (k : Int) ks → ks.length ≤ es.length)) : LawJ w L bag used bk tyl scr wh fx o1 o2 o3 o4 o5 o6 mR dxs vxs lim i m₁ news₁
theorem LawOff.cons {L bag used bk tyl : Addr} {p : Addr × Obj} {tl : List (Addr × Obj)} (h : LawOff L bag used bk tyl tl) (k : ∀ a ∈ [bag, used, bk, tyl, L + 1 + 1 + 1 + 1 + 1 + 1, L + 1 + 1 + 1 + 1 + 1, L + 1 + 1 + 1 + 1, L + 1 + 1 + 1, L + 1 + 1, L + 1], @Ne Nat p.1 a) : LawOff L bag used bk tyl (p :: tl) := fun a ha => ⟨k a ha, h a ha⟩
theorem tenOf {L bag used bk tyl : Addr} {P : Addr → Prop} (h1 : P bag) (h2 : P used) (h3 : P bk) (h4 : P tyl) (c0 : P (L + 1 + 1 + 1 + 1 + 1 + 1)) (c1 : P (L + 1 + 1 + 1 + 1 + 1)) (c2 : P (L + 1 + 1 + 1 + 1)) (c3 : P (L + 1 + 1 + 1)) (c4 : P (L + 1 + 1)) (c5 : P (L + 1)) :
    ∀ a ∈ [bag, used, bk, tyl, L + 1 + 1 + 1 + 1 + 1 + 1, L + 1 + 1 + 1 + 1 + 1, L + 1 + 1 + 1 + 1, L + 1 + 1 + 1, L + 1 + 1, L + 1], P a :=
  List.forall_mem_cons.mpr ⟨h1, List.forall_mem_cons.mpr ⟨h2, List.forall_mem_cons.mpr ⟨h3, List.forall_mem_cons.mpr ⟨h4, List.forall_mem_cons.mpr ⟨c0, List.forall_mem_cons.mpr ⟨c1, List.forall_mem_cons.mpr ⟨c2, List.forall_mem_cons.mpr ⟨c3, List.forall_mem_cons.mpr ⟨c4, List.forall_mem_cons.mpr ⟨c5, List.forall_mem_nil _⟩⟩⟩⟩⟩⟩⟩⟩⟩⟩
theorem eightMem {p1 p2 p3 p4 p5 p6 p7 p8 : Addr × Obj} {P : Addr × Obj → Prop} (h1 : P p1) (h2 : P p2) (h3 : P p3) (h4 : P p4) (h5 : P p5) (h6 : P p6) (h7 : P p7) (h8 : P p8) : ∀ q ∈ [p1, p2, p3, p4, p5, p6, p7, p8], P q :=
  List.forall_mem_cons.mpr ⟨h1, List.forall_mem_cons.mpr ⟨h2, List.forall_mem_cons.mpr ⟨h3, List.forall_mem_cons.mpr ⟨h4, List.forall_mem_cons.mpr ⟨h5, List.forall_mem_cons.mpr ⟨h6, List.forall_mem_cons.mpr ⟨h7, List.forall_mem_cons.mpr ⟨h8, List.forall_mem_nil _⟩⟩⟩⟩⟩⟩⟩⟩
theorem lawOff_of {L bag used bk tyl : Addr} {x : Addr} {ob uo bo to o1 o2 o3 o4 o5 o6 : Obj} {news : List (Addr × Obj)} (h : Off1 x news) (hs : ∀ p ∈ (bag, ob) :: (used, uo) :: lawPre L bk tyl bo to o1 o2 o3 o4 o5 o6, p ∈ news) :
    ∀ a ∈ [bag, used, bk, tyl, L + 1 + 1 + 1 + 1 + 1 + 1, L + 1 + 1 + 1 + 1 + 1, L + 1 + 1 + 1 + 1, L + 1 + 1 + 1, L + 1 + 1, L + 1], @Ne Nat x a :=
  tenOf (off1_at h (hs _ (.head _))) (off1_at h (hs _ (.tail _ (.head _)))) (off1_at h (hs _ (.tail _ (.tail _ (.head _))))) (off1_at h (hs _ (.tail _ (.tail _ (.tail _ (.head _)))))) (off1_at h (hs _ (.tail _ (.tail _ (.tail _ (.tail _ (.head _))))))) (off1_at h (hs _ (.tail _ (.tail _ (.tail _ (.tail _ (.tail _ (.head _)))))))) (off1_at h (hs _ (.tail _ (.tail _ (.tail _ (.tail _ (.tail _ (.tail _ (.head _))))))))) (off1_at h (hs _ (.tail _ (.tail _ (.tail _ (.tail _ (.tail _ (.tail _ (.tail _ (.head _)))))))))) (off1_at h (hs _ (.tail _ (.tail _ (.tail _ (.tail _ (.tail _ (.tail _ (.tail _ (.tail _ (.head _))))))))))) (off1_at h (hs _ (.tail _ (.tail _ (.tail _ (.tail _ (.tail _ (.tail _ (.tail _ (.tail _ (.tail _ (.head _))))))))))))
theorem lawOff_pre {L bag used bk tyl : Addr} {bo to o1 o2 o3 o4 o5 o6 : Obj} {tl : List (Addr × Obj)} (t1 : Off1 bag tl) (t2 : Off1 used tl) (tp : ∀ q ∈ lawPre L bk tyl bo to o1 o2 o3 o4 o5 o6, Off1 q.1 tl) : LawOff L bag used bk tyl tl :=
  tenOf t1 t2 (tp _ (.head _)) (tp _ (.tail _ (.head _))) (tp _ (.tail _ (.tail _ (.head _)))) (tp _ (.tail _ (.tail _ (.tail _ (.head _))))) (tp _ (.tail _ (.tail _ (.tail _ (.tail _ (.head _)))))) (tp _ (.tail _ (.tail _ (.tail _ (.tail _ (.tail _ (.head _))))))) (tp _ (.tail _ (.tail _ (.tail _ (.tail _ (.tail _ (.tail _ (.head _)))))))) (tp _ (.tail _ (.tail _ (.tail _ (.tail _ (.tail _ (.tail _ (.tail _ (.head _)))))))))
theorem lawPre_off {L bag used bk tyl : Addr} {bo to o1 o2 o3 o4 o5 o6 : Obj} {tl : List (Addr × Obj)} (h : LawOff L bag used bk tyl tl) : ∀ q ∈ lawPre L bk tyl bo to o1 o2 o3 o4 o5 o6, Off1 q.1 tl :=
  eightMem (P := fun q => Off1 q.1 tl) (h _ (.tail _ (.tail _ (.head _)))) (h _ (.tail _ (.tail _ (.tail _ (.head _))))) (h _ (.tail _ (.tail _ (.tail _ (.tail _ (.head _)))))) (h _ (.tail _ (.tail _ (.tail _ (.tail _ (.tail _ (.head _))))))) (h _ (.tail _ (.tail _ (.tail _ (.tail _ (.tail _ (.tail _ (.head _)))))))) (h _ (.tail _ (.tail _ (.tail _ (.tail _ (.tail _ (.tail _ (.tail _ (.head _))))))))) (h _ (.tail _ (.tail _ (.tail _ (.tail _ (.tail _ (.tail _ (.tail _ (.tail _ (.head _)))))))))) (h _ (.tail _ (.tail _ (.tail _ (.tail _ (.tail _ (.tail _ (.tail _ (.tail _ (.tail _ (.head _)))))))))))
theorem ne_tail {prog : Program} {w : World} {A : Around} {E : Value → Shared → Prop} {s : Shared} {l b : Addr} {vs ws : List Value} {f c r : List PySem.Str} {k : Nat} {Q : Value → Shared → Prop} (hl : s.heap.IsList l vs.toArray) (hb : s.heap.IsList b (ws.drop k).toArray) (h1 : StrsAre vs (c ++ r)) (h2 : StrsAre ws (f ++ c ++ r)) (e : k = f.length) (hu : A.units < cLine) (h : Q (.bool false) s) :
    wpAny (model prog w) A (compareOp .NotEq (.ref l) (.ref b)) Q E s := by
  refine ne_strs hl hb h1 (StrsAre.drop' h2 k) hu ?_
  rw [e, List.append_assoc, List.drop_left, decide_eq_true rfl]; exact h
theorem nd_swap {a b c d : List PySem.Str} : (a ++ b ++ c ++ d).Nodup ↔ (a ++ c ++ b ++ d).Nodup :=
  List.Perm.nodup_iff (List.Perm.append_right d (by rw [List.append_assoc, List.append_assoc]; exact List.Perm.append_left a List.perm_append_comm))
theorem law_offI {L bag used bk tyl I : Addr} {ob uo bo to o1 o2 o3 o4 o5 o6 : Obj} {tl : List (Addr × Obj)} (hIt : ∀ a ∈ [bag, used, bk, tyl, L + 1 + 1 + 1 + 1 + 1 + 1, L + 1 + 1 + 1 + 1 + 1, L + 1 + 1 + 1 + 1, L + 1 + 1 + 1, L + 1 + 1, L + 1], @Ne Nat I a) (hoI : Off1 I tl) : ∀ p ∈ (bag, ob) :: (used, uo) :: (lawPre L bk tyl bo to o1 o2 o3 o4 o5 o6 ++ tl), @Ne Nat p.1 I :=
  List.forall_mem_cons.mpr ⟨(hIt _ (.head _)).symm, List.forall_mem_cons.mpr ⟨(hIt _ (.tail _ (.head _))).symm, fun p hp => (List.mem_append.mp hp).elim (eightMem (P := fun q => @Ne Nat q.1 I) (hIt _ (.tail _ (.tail _ (.head _)))).symm (hIt _ (.tail _ (.tail _ (.tail _ (.head _))))).symm (hIt _ (.tail _ (.tail _ (.tail _ (.tail _ (.head _)))))).symm (hIt _ (.tail _ (.tail _ (.tail _ (.tail _ (.tail _ (.head _))))))).symm (hIt _ (.tail _ (.tail _ (.tail _ (.tail _ (.tail _ (.tail _ (.head _)))))))).symm (hIt _ (.tail _ (.tail _ (.tail _ (.tail _ (.tail _ (.tail _ (.tail _ (.head _))))))))).symm (hIt _ (.tail _ (.tail _ (.tail _ (.tail _ (.tail _ (.tail _ (.tail _ (.tail _ (.head _)))))))))).symm (hIt _ (.tail _ (.tail _ (.tail _ (.tail _ (.tail _ (.tail _ (.tail _ (.tail _ (.tail _ (.head _))))))))))).symm p) (off1_mem hoI p)⟩⟩
theorem up_snoc {es : List BE} {a : Nat} {js : List Nat} {rxs : List PySem.Str} (hup : ∀ (k : Nat) (ks : List Nat), UpR es (k : Int) ks → ks.length ≤ es.length) (hall : ∀ k, k < es.length → ∃ ks, UpR es (k : Int) ks) (huj : UpR es (a : Int) js) :
    ∀ (k : Nat) (ks : List Nat), UpR (es ++ [⟨(a : Int), rxs⟩]) (k : Int) ks → ks.length ≤ (es ++ [(⟨(a : Int), rxs⟩ : BE)]).length := by
  intro k ks hk
  rw [List.length_append, List.length_singleton]
  cases ks with
  | nil => simp
  | cons j r =>
    obtain ⟨hj, e, he, hr⟩ := hk
    have hkj : k = j := by omega
    subst hkj
    rcases get_snoc he with h | ⟨h, rfl⟩
    · obtain ⟨ks', h'⟩ := hall k (lt_of_get h)
      have hk2 : UpR (es ++ [(⟨(a : Int), rxs⟩ : BE)]) (k : Int) (k :: r) := ⟨hj, e, he, hr⟩
      have e1 := hk2.unique h'.mono
      have := hup k ks' h'
      rw [e1]; omega
    · have e1 : r = js := UpR.unique (es := es ++ [(⟨(a : Int), rxs⟩ : BE)]) hr huj.mono
      have := hup a js huj
      rw [e1, List.length_cons]; omega
theorem law_ok_end {w : World} {h₀ h : Heap} {L bag used bk tyl scr wh fx I D D9 d9 x Dc n8 : Addr} {oI o1 o2 o3 o4 o5 o6 ob od o9 : Obj} {mR : FMap} {dxs vxs rxs xs : List PySem.Str} {lim lim' : Int} {i a n1 n2 n3 tk : Nat} {ta tn : Tok} {u1 u2 u3 u4 u5 u6 : Option Value} {us bs ys ws cvs : List Value} {ts : List (Addr × TF)} {es : List BE} {js : List Nat} {tl2 : List (Addr × Obj)} {T' : TF} {p : Addr × TF} {Q : Flow → Shared → Prop} {s0 : Shared}
    (F : Fr h₀ L h (setAll (lawMap bk fx mR) [(Str.ofString "turn", u1), (Str.ofString "at", u2), (Str.ofString "rows", u3), (Str.ofString "names", u4), (Str.ofString "line", u5), (Str.ofString "made", u6)]))
    (N : News h₀ L h ((D9, lst ws) :: (d9, o9) :: (D, od) :: (bag, ob) :: (used, listOf us.toArray n1) :: (I, oI) :: (bk, listOf (bs ++ [Value.ref d9]).toArray n2) :: (tyl, listOf (ts.map (fun p => Value.ref p.1) ++ [Value.ref x]).toArray n3) :: (L + 1 + 1 + 1 + 1 + 1 + 1, o6) :: (L + 1 + 1 + 1 + 1 + 1, o5) :: (L + 1 + 1 + 1 + 1, o4) :: (L + 1 + 1 + 1, o3) :: (L + 1 + 1, o2) :: (L + 1, o1) :: tl2))
    (lt9 : D < d9 ∧ bag < d9 ∧ used < d9 ∧ I < d9 ∧ bk < d9 ∧ tyl < d9 ∧ L + 1 + 1 + 1 + 1 + 1 + 1 < d9 ∧ L + 1 + 1 + 1 + 1 + 1 < d9 ∧ L + 1 + 1 + 1 + 1 < d9 ∧ L + 1 + 1 + 1 < d9 ∧ L + 1 + 1 < d9 ∧ L + 1 < d9 ∧ AllLt d9 tl2)
    (oc : d9 ≠ D9 ∧ D ≠ D9 ∧ bag ≠ D9 ∧ used ≠ D9 ∧ I ≠ D9 ∧ bk ≠ D9 ∧ tyl ≠ D9 ∧ L + 1 + 1 + 1 + 1 + 1 + 1 ≠ D9 ∧ L + 1 + 1 + 1 + 1 + 1 ≠ D9 ∧ L + 1 + 1 + 1 + 1 ≠ D9 ∧ L + 1 + 1 + 1 ≠ D9 ∧ L + 1 + 1 ≠ D9 ∧ L + 1 ≠ D9 ∧ Off1 D9 tl2)
    (hd9 : o9.IsDictOf (SK w) (entKvs (a : Int) ta D9 [])) (hw : StrsAre ws rxs) (hi : i < 6) (hok : LawOK w tl2 scr wh fx bs ts es dxs vxs) (hIo : LawOff L bag used bk tyl tl2) (hoI : Off1 I tl2) (hIt : ∀ a ∈ [bag, used, bk, tyl, L + 1 + 1 + 1 + 1 + 1 + 1, L + 1 + 1 + 1 + 1 + 1, L + 1 + 1 + 1 + 1, L + 1 + 1 + 1, L + 1 + 1, L + 1], @Ne Nat I a)
    (hR : RowsR (InL tl2) ys rxs) (hrl : rxs.length ≤ 3) (hb : BagO w scr lim' ob) (hlim : lim' ≤ lim + 10 * ((i + 1 : Nat) : Int)) (hus : StrsAre us xs) (hxl : xs.length ≤ 5 + 3 * (i + 1)) (hel : es.length ≤ 1 + i) (hep : 0 < es.length) (hnum : ∀ (j : Nat) (q : Addr × TF), ts[j]? = some q → q.2.num < 60 + i) (hup : ∀ (k : Nat) (ks : List Nat), UpR es (k : Int) ks → ks.length ≤ es.length)
    (hnd : (dxs ++ vxs ++ namesOf es js ++ rxs).Nodup) (hty : TyH w (InL tl2) x T') (hTp : T'.parent = .ref p.1) (hTn : T'.number = .int (60 + (i : Int)) tn) (hTc : T'.comps = .ref Dc) (hTd : T'.discs = p.2.discs) (hTv : T'.variant = p.2.variant) (hTt : T'.tagged = .bool true)
    (hDc : (Dc, listOf (cvs ++ ys).toArray n8) ∈ tl2) (hcr : RowsR (InL tl2) cvs (namesOf es js)) (hp : ts[a]? = some p) (huj : UpR es (a : Int) js) :
    TurnEnd h₀ L I oI (fun _ => True) (LawJ w L bag used bk tyl scr wh fx o1 o2 o3 o4 o5 o6 mR dxs vxs lim (i + 1)) Q s0 .next { s0 with heap := h, toks := tk } := by
  have et : (ts ++ [(x, T')]).map (fun p => Value.ref p.1) = ts.map (fun p => Value.ref p.1) ++ [Value.ref x] := by simp
  rw [← et] at N
  have hTnum : T'.num = 60 + (i : Int) := by unfold TF.num; rw [hTn]
  have sub : ∀ q ∈ tl2, q ∈ (D9, lst ws) :: (d9, o9) :: tl2 := fun q hq => .tail _ (.tail _ hq)
  have up : ∀ a o, (a, o) ∈ tl2 → (a, o) ∈ (D9, lst ws) :: (d9, o9) :: tl2 := fun a o e => sub _ e
  have hok3 := hok.mono sub
  have hjl := hup a js huj
  have hIo3 : LawOff L bag used bk tyl ((D9, lst ws) :: (d9, o9) :: tl2) :=
    (hIo.cons (p := (d9, o9)) (tenOf (Nat.ne_of_gt lt9.2.1) (Nat.ne_of_gt lt9.2.2.1) (Nat.ne_of_gt lt9.2.2.2.2.1) (Nat.ne_of_gt lt9.2.2.2.2.2.1) (Nat.ne_of_gt lt9.2.2.2.2.2.2.1) (Nat.ne_of_gt lt9.2.2.2.2.2.2.2.1) (Nat.ne_of_gt lt9.2.2.2.2.2.2.2.2.1) (Nat.ne_of_gt lt9.2.2.2.2.2.2.2.2.2.1) (Nat.ne_of_gt lt9.2.2.2.2.2.2.2.2.2.2.1) (Nat.ne_of_gt lt9.2.2.2.2.2.2.2.2.2.2.2.1))).cons (p := (D9, lst ws)) (tenOf oc.2.2.1.symm oc.2.2.2.1.symm oc.2.2.2.2.2.1.symm oc.2.2.2.2.2.2.1.symm oc.2.2.2.2.2.2.2.1.symm oc.2.2.2.2.2.2.2.2.1.symm oc.2.2.2.2.2.2.2.2.2.1.symm oc.2.2.2.2.2.2.2.2.2.2.1.symm oc.2.2.2.2.2.2.2.2.2.2.2.1.symm oc.2.2.2.2.2.2.2.2.2.2.2.2.1.symm)
  have hoI3 : Off1 I ((D9, lst ws) :: (d9, o9) :: tl2) := ⟨oc.2.2.2.2.1.symm, Nat.ne_of_gt lt9.2.2.2.1, hoI⟩
  have hT3 := hok3.tys.snoc (n := n8) hp huj (by omega) (by omega) (hty.mono up) hTt ⟨_, _, hTn⟩ (fun j q hq => by have := hnum j q hq; rw [hTnum]; omega) hTd hTv hTp hTc (up _ _ hDc) (hcr.mono up) (hR.mono up) (by omega) hnd
  refine ⟨h, tk, _, (bag, ob) :: (used, listOf us.toArray n1) :: (lawPre L bk tyl (listOf (bs ++ [Value.ref d9]).toArray n2) (listOf ((ts ++ [(x, T')]).map fun p => Value.ref p.1).toArray n3) o1 o2 o3 o4 o5 o6 ++ ((D9, lst ws) :: (d9, o9) :: tl2)), rfl, F, fun q hq => N q ?_, law_offI hIt hoI3, trivial,
    u1, u2, u3, u4, u5, u6, ob, us, n1, xs, bs ++ [Value.ref d9], n2, n3, ts ++ [(x, T')], es ++ [⟨(a : Int), rxs⟩], (D9, lst ws) :: (d9, o9) :: tl2, rfl, rfl, hIo3,
    { scr := hok3.scr, whole := hok3.whole, fixed := hok3.fixed, tys := hT3, ents := hok3.ents.snoc ⟨d9, o9, D9, ta, [], ws, _, rfl, .tail _ (.head _), hd9, .head _, hw⟩, fix := hok3.fix.snoc, dlen := hok3.dlen }, hb.more hlim, hus, hxl, ?_, ?_, ?_, up_snoc hup (fun k hk => let ⟨ks, h1, _⟩ := hok.tys.up k hk; ⟨ks, h1⟩) huj⟩
  · exact (subPick (.tail _ (.tail _ (.tail _ (.tail _ (.tail _ (.head _)))))) (subPick (.tail _ (.tail _ (.tail _ (.head _)))) (subPick (.tail _ (.tail _ (.tail _ (.tail _ (.head _))))) (subApp (subPick (.tail _ (.tail _ (.tail _ (.tail _ (.tail _ (.tail _ (.head _))))))) (subPick (.tail _ (.tail _ (.tail _ (.tail _ (.tail _ (.tail _ (.tail _ (.head _)))))))) (subPick (.tail _ (.tail _ (.tail _ (.tail _ (.tail _ (.tail _ (.tail _ (.tail _ (.head _))))))))) (subPick (.tail _ (.tail _ (.tail _ (.tail _ (.tail _ (.tail _ (.tail _ (.tail _ (.tail _ (.head _)))))))))) (subPick (.tail _ (.tail _ (.tail _ (.tail _ (.tail _ (.tail _ (.tail _ (.tail _ (.tail _ (.tail _ (.head _))))))))))) (subPick (.tail _ (.tail _ (.tail _ (.tail _ (.tail _ (.tail _ (.tail _ (.tail _ (.tail _ (.tail _ (.tail _ (.head _)))))))))))) (subPick (.tail _ (.tail _ (.tail _ (.tail _ (.tail _ (.tail _ (.tail _ (.tail _ (.tail _ (.tail _ (.tail _ (.tail _ (.head _))))))))))))) (subPick (.tail _ (.tail _ (.tail _ (.tail _ (.tail _ (.tail _ (.tail _ (.tail _ (.tail _ (.tail _ (.tail _ (.tail _ (.tail _ (.head _)))))))))))))) (List.forall_mem_nil _))))))))) (subPick (.head _) (subPick (.tail _ (.head _)) (subSkip (subSkip (subSkip (subSkip (subSkip (subSkip (subSkip (subSkip (subSkip (subSkip (subSkip (subSkip (subSkip (subSkip (fun _ h => h))))))))))))))))))))) q hq
  · rw [List.length_append, List.length_singleton]; omega
  · intro j q hq
    rcases get_snoc hq with h | ⟨_, rfl⟩
    · have := hnum j q h; omega
    · show T'.num < _
      rw [hTnum]; omega
  · rw [List.length_append, List.length_singleton]; omega
theorem turn_map {base : FMap} {a1 a2 a3 a4 a5 a6 v1 v2 v3 v4 v5 v6 : Option Value} : (fun y => if y = Str.ofString "made" then a6 else if y = Str.ofString "line" then a5 else if y = Str.ofString "names" then a4 else if y = Str.ofString "rows" then a3 else if y = Str.ofString "at" then a2 else if y = Str.ofString "turn" then a1 else if y = Str.ofString "turn" then v1 else if y = Str.ofString "at" then v2 else if y = Str.ofString "rows" then v3 else if y = Str.ofString "names" then v4 else if y = Str.ofString "line" then v5 else if y = Str.ofString "made" then v6 else base y) = setAll base [(Str.ofString "turn", a1), (Str.ofString "at", a2), (Str.ofString "rows", a3), (Str.ofString "names", a4), (Str.ofString "line", a5), (Str.ofString "made", a6)] := by
  funext y
  by_cases h1 : y = Str.ofString "turn"
  · subst h1; rfl
  by_cases h2 : y = Str.ofString "at"
  · subst h2; rfl
  by_cases h3 : y = Str.ofString "rows"
  · subst h3; rfl
  by_cases h4 : y = Str.ofString "names"
  · subst h4; rfl
  by_cases h5 : y = Str.ofString "line"
  · subst h5; rfl
  by_cases h6 : y = Str.ofString "made"
  · subst h6; rfl
  simp only [setAll, h1, h2, h3, h4, h5, h6, if_false]
theorem scr_tail {h : Heap} {tl : List (Addr × Obj)} {scr : Addr} (h1 : ScrR (InL tl) scr) (k : ∀ a o, (a, o) ∈ tl → h.get? a = some o) : ScrR (At h) scr := h1.mono fun a o e => k a o e
theorem ents_tail {w : World} {h : Heap} {tl : List (Addr × Obj)} {bs : List Value} {es : List BE} (h1 : EntsR w (InL tl) bs es) (k : ∀ a o, (a, o) ∈ tl → h.get? a = some o) : EntsR w (At h) bs es := h1.mono fun a o e => k a o e
theorem ty_tail {w : World} {h : Heap} {tl : List (Addr × Obj)} {x : Addr} {T : TF} (h1 : TyH w (InL tl) x T) (k : ∀ a o, (a, o) ∈ tl → h.get? a = some o) : TyH w (At h) x T := h1.mono fun a o e => k a o e
end
set_option maxHeartbeats 1000000

theorem isi_ty {w : World} {A : Around} {E : Value → Shared → Prop} {s : Shared} {h₀ : Heap} {L x : Addr} {m : FMap} {T : TF} {Q : Value → Shared → Prop} (F : Fr h₀ L s.heap m) (X : (hd.heap_1 w.params).In h₀) (H : TyH w (At s.heap) x T) (h : ∀ tk, Q (.bool false) { s with toks := tk }) :
    wpAny (model PySem.Challenge.rw_pb0010_01.row.prog w) A (call (.builtin "isinstance") [.ref x, .type "int"]) Q E s := by
  refine byNo fun hno => ?_
  obtain ⟨d, od, op, oo, h1, h2, _⟩ := H
  refine hno ?_
  clear hno
  exact kin_callT (X.keeps F.keep) ⟨h1, rfl, rfl, h2⟩ (by first | kin_no | k_is) (by kernel_rfl) (by k_is) (by k_is) (by k_is) (by k_is) (by k_is) (by k_is) (h _)
section
set_option maxHeartbeats 8000000
theorem law_no (w : World) (mean mg mb) (dp un : Nat) (gd : Option (List Code)) (f : Addr) (cd : Value) (A₀ : Around) (h₀ : Heap) (L bag used bk tyl scr wh fx I Nm D : Addr) (o1 o2 o3 o4 o5 o6 oI ob : Obj) (mR : FMap) (dxs vxs rxs xs' : List PySem.Str) (lim lim' ln : Int) (i a n' n2 n3 tk : Nat) (ti ta tln : Tok) (h : Heap) (s0 : Shared) (Q : Flow → Shared → Prop) (E' : Value → Shared → Prop)
    (us' ys nvs bs : List Value) (ts : List (Addr × TF)) (es : List BE) (js : List Nat) (tl2 : List (Addr × Obj))
    (B : Below A₀ h₀ [] h₀) (X : (hd.heap_1 w.params).In h₀) (Tp : TP mean mg mb h₀) (hd : dp + 200 < recursionLimit) (hu : un + 9800 < cLine) (hi : i < 6) (hok : LawOK w tl2 scr wh fx bs ts es dxs vxs) (hIo : LawOff L bag used bk tyl tl2) (hoI : Off1 I tl2) (hIt : ∀ a ∈ [bag, used, bk, tyl, L + 1 + 1 + 1 + 1 + 1 + 1, L + 1 + 1 + 1 + 1 + 1, L + 1 + 1 + 1 + 1, L + 1 + 1 + 1, L + 1 + 1, L + 1], @Ne Nat I a) (hDI : @Ne Nat D I) (hup : ∀ (k : Nat) (ks : List Nat), UpR es (k : Int) ks → ks.length ≤ es.length)
    (hR : RowsR (InL tl2) ys rxs) (hrl : rxs.length ≤ 3) (hnvs : StrsAre nvs (dxs ++ vxs ++ namesOf es js ++ rxs)) (hjl : js.length ≤ 10) (hb : BagO w scr lim' ob) (hlim : lim' ≤ lim + 10 * ((i + 1 : Nat) : Int)) (hus : StrsAre us' xs') (hxl : xs'.length ≤ 5 + 3 * (i + 1)) (hel : es.length ≤ 1 + i) (hep : 0 < es.length) (hnum : ∀ (j : Nat) (q : Addr × TF), ts[j]? = some q → q.2.num < 60 + i)
    (N : News h₀ L h ((Nm, listOf nvs.toArray 0) :: (D, lst ys) :: (bag, ob) :: (used, listOf us'.toArray n') :: (I, oI) :: ((lawPre L bk tyl (listOf bs.toArray n2) (listOf (ts.map fun p => Value.ref p.1).toArray n3) o1 o2 o3 o4 o5 o6) ++ tl2)))
    (hD : ∀ a ∈ [bag, used, bk, tyl, L + 1 + 1 + 1 + 1 + 1 + 1, L + 1 + 1 + 1 + 1 + 1, L + 1 + 1 + 1 + 1, L + 1 + 1 + 1, L + 1 + 1, L + 1], @Ne Nat D a)
    (k1 : o1.data = .cell (some (.ref bag))) (k2 : o2.data = .cell (some (.ref wh))) (k3 : o3.data = .cell (some (.ref used))) (k4 : o4.data = .cell (some (.ref tyl))) (e0_1 : @Ne Nat (bag) (used)) (e0_2 : @Ne Nat (bag) (bk)) (e0_3 : @Ne Nat (bag) (tyl)) (e0_4 : @Ne Nat (bag) (L + 1 + 1 + 1 + 1 + 1 + 1)) (e0_5 : @Ne Nat (bag) (L + 1 + 1 + 1 + 1 + 1)) (e0_6 : @Ne Nat (bag) (L + 1 + 1 + 1 + 1)) (e0_7 : @Ne Nat (bag) (L + 1 + 1 + 1)) (e0_8 : @Ne Nat (bag) (L + 1 + 1)) (e0_9 : @Ne Nat (bag) (L + 1)) (e1_2 : @Ne Nat (used) (bk)) (e1_3 : @Ne Nat (used) (tyl)) (e1_4 : @Ne Nat (used) (L + 1 + 1 + 1 + 1 + 1 + 1)) (e1_5 : @Ne Nat (used) (L + 1 + 1 + 1 + 1 + 1)) (e1_6 : @Ne Nat (used) (L + 1 + 1 + 1 + 1)) (e1_7 : @Ne Nat (used) (L + 1 + 1 + 1)) (e1_8 : @Ne Nat (used) (L + 1 + 1)) (e1_9 : @Ne Nat (used) (L + 1)) (e2_3 : @Ne Nat (bk) (tyl)) (e2_4 : @Ne Nat (bk) (L + 1 + 1 + 1 + 1 + 1 + 1)) (e2_5 : @Ne Nat (bk) (L + 1 + 1 + 1 + 1 + 1)) (e2_6 : @Ne Nat (bk) (L + 1 + 1 + 1 + 1)) (e2_7 : @Ne Nat (bk) (L + 1 + 1 + 1)) (e2_8 : @Ne Nat (bk) (L + 1 + 1)) (e2_9 : @Ne Nat (bk) (L + 1)) (e3_4 : @Ne Nat (tyl) (L + 1 + 1 + 1 + 1 + 1 + 1)) (e3_5 : @Ne Nat (tyl) (L + 1 + 1 + 1 + 1 + 1)) (e3_6 : @Ne Nat (tyl) (L + 1 + 1 + 1 + 1)) (e3_7 : @Ne Nat (tyl) (L + 1 + 1 + 1)) (e3_8 : @Ne Nat (tyl) (L + 1 + 1)) (e3_9 : @Ne Nat (tyl) (L + 1)) (hnd : ¬ (dxs ++ vxs ++ namesOf es js ++ rxs).Nodup)
    (F : Fr h₀ L h (setAll (lawMap bk fx mR) [(Str.ofString "turn", some (.int (i : Int) ti)), (Str.ofString "at", some (.int (a : Int) ta)), (Str.ofString "rows", some (.ref D)), (Str.ofString "names", some (.ref Nm)), (Str.ofString "line", some (.int ln tln)), (Str.ofString "made", some (.int ln tln))])) :
    wpAny (model PySem.Challenge.rw_pb0010_01.row.prog w) (topA dp un gd (lawEnv L f cd) []) (execs (lawTurn.drop 5) (lawEnv L f cd)) (TurnEnd h₀ L I oI (fun _ => True) (LawJ w L bag used bk tyl scr wh fx o1 o2 o3 o4 o5 o6 mR dxs vxs lim (i + 1)) Q s0) E' { s0 with heap := h, toks := tk } := by
  have F0 := F
  dsimp only [lawTurn, forBody, lawEnv, lawDef, funScope, funBody, PySem.Challenge.pw_pb0010_01, List.getLast?, List.getLast, Option.getD, List.getD, List.getElem?_cons_zero, List.getElem?_cons_succ, List.drop]
  dsimp only [setAll, lawMap] at F
  dsimp only [List.cons_append, List.nil_append] at N
  have i0 := hIt bag (by simp)
  have i1 := hIt used (by simp)
  have i2 := hIt bk (by simp)
  have i3 := hIt tyl (by simp)
  have tb := hIo bag (by simp)
  have tu := hIo used (by simp)
  have tk' := hIo bk (by simp)
  have tt := hIo tyl (by simp)
  have hT := hok.tys
  have hown := hT.own
  have hsm := hT.small
  have htl := hT.len
  have hlm : (List.map (fun p => Value.ref p.1) ts).length = es.length := by rw [List.length_map, htl]
  have hbl := hok.ents.1
  have hns : nvs.length = (dxs ++ vxs ++ namesOf es js ++ rxs).length := hnvs.length
  have hnl := names_len (js := js) hown
  refine byNo fun hno => ?_
  obtain ⟨fvs, nf, hfx, hfs⟩ := hok.fixed
  refine hno ?_
  clear hno
  have hfl := hfs.length
  have hdl := hok.dlen
  have hl1000 : (dxs ++ vxs ++ namesOf es js ++ rxs).length ≤ 1000 := by
    rw [List.length_append, List.length_append]; omega
  rw [List.length_append, List.length_append] at hns
  focus
    iterate 9 ((try dsimp only); walk1)
    ((try dsimp only); refine len_L (by first | exact isListOf (News.get (by assumption) (by k_search 3)) | exact isListOf (News.get (by assumption) (by repeat (first | with_reducible assumption | refine List.mem_cons_of_mem _ ?_))) | exact Heap.IsList.at (by assumption) (fun o e => Fr.keep (by assumption) _ o e)) (by k_search 4) ?_; (intro _ _))
    iterate 4 ((try dsimp only); walk1)
  all_goals (try dsimp only)
  rename Fr _ _ _ _ => Fa
  rename News _ _ _ _ => Na
  refine dictcomp_ones Fa (modules_low (Top.nolimit Tp)) rfl rfl (by decide) rfl (by decide) (by decide) (by decide) ?_
  focus
    ((try dsimp only); walk1)
  refine ⟨Nm, nvs, _, _, rfl, Fa, Na, isListOf (News.get Na (.head _)), hnvs, hl1000, ?_⟩
  intro Dd oDd h9 tk9 kvs Fb Nb of9 hsy hdo hks
  have hkl : @LT.lt Nat _ kvs.length nvs.length := by
    have := congrArg List.length hks
    rw [List.length_map] at this
    rw [this, hnvs.length]
    have h1 := dedS_le (dxs ++ vxs ++ namesOf es js ++ rxs) []
    have h2 : (dedS (dxs ++ vxs ++ namesOf es js ++ rxs)).length ≠ _ := fun e => hnd (dedS_len.mp e)
    unfold dedS at h2 ⊢
    rw [List.length_nil, Nat.zero_add] at h1
    exact Nat.lt_of_le_of_ne h1 h2
  clear Fa Na
  focus
    ((try dsimp only); walk1)
  all_goals (try dsimp only)
  refine call_len_dict (knd := SK w) hsy (Heap.dictOf_iff.mpr ⟨oDd, News.get Nb (.head _), hdo⟩) (by omega) ?_
  replace Nb := News.tail1 Nb
  clear of9 hsy hdo hks
  focus
    focus (iterate 15 ((try dsimp only); walk1))
    rotate_left
    focus (iterate 3 ((try dsimp only); walk1))
    rotate_left
    focus (iterate 21 ((try dsimp only); walk1))
    rotate_left
  all_goals first | (exfalso; omega) | skip
  all_goals (try dsimp only)
  exact ⟨h9, _, _, (bag, ob) :: (used, listOf us'.toArray n') :: ((lawPre L bk tyl (listOf bs.toArray n2) (listOf (ts.map fun p => Value.ref p.1).toArray n3) o1 o2 o3 o4 o5 o6) ++ tl2), rfl, Fb, fun q hq => Nb q (by
    rcases List.mem_cons.mp hq with h | hq
    · rw [h]; exact .tail _ (.tail _ (.tail _ (.tail _ (.head _))))
    rcases List.mem_cons.mp hq with h | hq
    · rw [h]; exact .tail _ (.tail _ (.head _))
    rcases List.mem_cons.mp hq with h | hq
    · rw [h]; exact .tail _ (.tail _ (.tail _ (.head _)))
    · exact .tail _ (.tail _ (.tail _ (.tail _ (.tail _ hq))))), law_offI hIt hoI, trivial, _, _, _, _, _, _, ob, us', n', xs', bs, n2, n3, ts, es, tl2, rfl, rfl, hIo, hok, hb.more hlim, hus, hxl, by omega, fun j q hq => by have := hnum j q hq; omega, hep, hup⟩
theorem law_ok (w : World) (mean mg mb) (dp un : Nat) (gd : Option (List Code)) (f : Addr) (cd : Value) (A₀ : Around) (h₀ : Heap) (L bag used bk tyl scr wh fx I Nm D : Addr) (o1 o2 o3 o4 o5 o6 oI ob : Obj) (mR : FMap) (dxs vxs rxs xs' : List PySem.Str) (lim lim' ln : Int) (i a n' n2 n3 tk : Nat) (ti ta tln : Tok) (h : Heap) (s0 : Shared) (Q : Flow → Shared → Prop) (E' : Value → Shared → Prop)
    (us' ys nvs bs : List Value) (ts : List (Addr × TF)) (es : List BE) (js : List Nat) (tl2 : List (Addr × Obj))
    (B : Below A₀ h₀ [] h₀) (X : (hd.heap_1 w.params).In h₀) (Tp : TP mean mg mb h₀) (hd : dp + 200 < recursionLimit) (hu : un + 9800 < cLine) (hi : i < 6) (hok : LawOK w tl2 scr wh fx bs ts es dxs vxs) (hIo : LawOff L bag used bk tyl tl2) (hoI : Off1 I tl2) (hIt : ∀ a ∈ [bag, used, bk, tyl, L + 1 + 1 + 1 + 1 + 1 + 1, L + 1 + 1 + 1 + 1 + 1, L + 1 + 1 + 1 + 1, L + 1 + 1 + 1, L + 1 + 1, L + 1], @Ne Nat I a) (hDI : @Ne Nat D I) (hup : ∀ (k : Nat) (ks : List Nat), UpR es (k : Int) ks → ks.length ≤ es.length)
    (hR : RowsR (InL tl2) ys rxs) (hrl : rxs.length ≤ 3) (hnvs : StrsAre nvs (dxs ++ vxs ++ namesOf es js ++ rxs)) (hjl : js.length ≤ 10) (hb : BagO w scr lim' ob) (hlim : lim' ≤ lim + 10 * ((i + 1 : Nat) : Int)) (hus : StrsAre us' xs') (hxl : xs'.length ≤ 5 + 3 * (i + 1)) (hel : es.length ≤ 1 + i) (hep : 0 < es.length) (hnum : ∀ (j : Nat) (q : Addr × TF), ts[j]? = some q → q.2.num < 60 + i)
    (N : News h₀ L h ((Nm, listOf nvs.toArray 0) :: (D, lst ys) :: (bag, ob) :: (used, listOf us'.toArray n') :: (I, oI) :: ((lawPre L bk tyl (listOf bs.toArray n2) (listOf (ts.map fun p => Value.ref p.1).toArray n3) o1 o2 o3 o4 o5 o6) ++ tl2)))
    (hD : ∀ a ∈ [bag, used, bk, tyl, L + 1 + 1 + 1 + 1 + 1 + 1, L + 1 + 1 + 1 + 1 + 1, L + 1 + 1 + 1 + 1, L + 1 + 1 + 1, L + 1 + 1, L + 1], @Ne Nat D a)
    (k1 : o1.data = .cell (some (.ref bag))) (k2 : o2.data = .cell (some (.ref wh))) (k3 : o3.data = .cell (some (.ref used))) (k4 : o4.data = .cell (some (.ref tyl))) (e0_1 : @Ne Nat (bag) (used)) (e0_2 : @Ne Nat (bag) (bk)) (e0_3 : @Ne Nat (bag) (tyl)) (e0_4 : @Ne Nat (bag) (L + 1 + 1 + 1 + 1 + 1 + 1)) (e0_5 : @Ne Nat (bag) (L + 1 + 1 + 1 + 1 + 1)) (e0_6 : @Ne Nat (bag) (L + 1 + 1 + 1 + 1)) (e0_7 : @Ne Nat (bag) (L + 1 + 1 + 1)) (e0_8 : @Ne Nat (bag) (L + 1 + 1)) (e0_9 : @Ne Nat (bag) (L + 1)) (e1_2 : @Ne Nat (used) (bk)) (e1_3 : @Ne Nat (used) (tyl)) (e1_4 : @Ne Nat (used) (L + 1 + 1 + 1 + 1 + 1 + 1)) (e1_5 : @Ne Nat (used) (L + 1 + 1 + 1 + 1 + 1)) (e1_6 : @Ne Nat (used) (L + 1 + 1 + 1 + 1)) (e1_7 : @Ne Nat (used) (L + 1 + 1 + 1)) (e1_8 : @Ne Nat (used) (L + 1 + 1)) (e1_9 : @Ne Nat (used) (L + 1)) (e2_3 : @Ne Nat (bk) (tyl)) (e2_4 : @Ne Nat (bk) (L + 1 + 1 + 1 + 1 + 1 + 1)) (e2_5 : @Ne Nat (bk) (L + 1 + 1 + 1 + 1 + 1)) (e2_6 : @Ne Nat (bk) (L + 1 + 1 + 1 + 1)) (e2_7 : @Ne Nat (bk) (L + 1 + 1 + 1)) (e2_8 : @Ne Nat (bk) (L + 1 + 1)) (e2_9 : @Ne Nat (bk) (L + 1)) (e3_4 : @Ne Nat (tyl) (L + 1 + 1 + 1 + 1 + 1 + 1)) (e3_5 : @Ne Nat (tyl) (L + 1 + 1 + 1 + 1 + 1)) (e3_6 : @Ne Nat (tyl) (L + 1 + 1 + 1 + 1)) (e3_7 : @Ne Nat (tyl) (L + 1 + 1 + 1)) (e3_8 : @Ne Nat (tyl) (L + 1 + 1)) (e3_9 : @Ne Nat (tyl) (L + 1)) (hnd : (dxs ++ vxs ++ namesOf es js ++ rxs).Nodup) (x Dc n8 : Addr) (T' : TF) (p : Addr × TF) (cvs : List Value) (tn : Tok) (hty : TyH w (InL tl2) x T') (hTp : T'.parent = .ref p.1) (hTn : T'.number = .int (60 + (i : Int)) tn) (hTc : T'.comps = .ref Dc) (hTd : T'.discs = p.2.discs) (hTv : T'.variant = p.2.variant) (hTt : T'.tagged = .bool true)
    (hDc : (Dc, listOf (cvs ++ ys).toArray n8) ∈ tl2) (hcr : RowsR (InL tl2) cvs (namesOf es js)) (hp : ts[a]? = some p) (huj : UpR es (a : Int) js)
    (F : Fr h₀ L h (setAll (lawMap bk fx mR) [(Str.ofString "turn", some (.int (i : Int) ti)), (Str.ofString "at", some (.int (a : Int) ta)), (Str.ofString "rows", some (.ref D)), (Str.ofString "names", some (.ref Nm)), (Str.ofString "line", some (.int ln tln)), (Str.ofString "made", some (.ref x))])) :
    wpAny (model PySem.Challenge.rw_pb0010_01.row.prog w) (topA dp un gd (lawEnv L f cd) []) (execs (lawTurn.drop 5) (lawEnv L f cd)) (TurnEnd h₀ L I oI (fun _ => True) (LawJ w L bag used bk tyl scr wh fx o1 o2 o3 o4 o5 o6 mR dxs vxs lim (i + 1)) Q s0) E' { s0 with heap := h, toks := tk } := by
  have hcl := hcr.1
  have hyl := hR.1
  have F0 := F
  dsimp only [lawTurn, forBody, lawEnv, lawDef, funScope, funBody, PySem.Challenge.pw_pb0010_01, List.getLast?, List.getLast, Option.getD, List.getD, List.getElem?_cons_zero, List.getElem?_cons_succ, List.drop]
  dsimp only [setAll, lawMap] at F
  dsimp only [List.cons_append, List.nil_append] at N
  have i0 := hIt bag (by simp)
  have i1 := hIt used (by simp)
  have i2 := hIt bk (by simp)
  have i3 := hIt tyl (by simp)
  have tb := hIo bag (by simp)
  have tu := hIo used (by simp)
  have tk' := hIo bk (by simp)
  have tt := hIo tyl (by simp)
  have hT := hok.tys
  have hown := hT.own
  have hsm := hT.small
  have htl := hT.len
  have hlm : (List.map (fun p => Value.ref p.1) ts).length = es.length := by rw [List.length_map, htl]
  have hbl := hok.ents.1
  have hns : nvs.length = (dxs ++ vxs ++ namesOf es js ++ rxs).length := hnvs.length
  have hnl := names_len (js := js) hown
  refine byNo fun hno => ?_
  obtain ⟨fvs, nf, hfx, hfs⟩ := hok.fixed
  refine hno ?_
  clear hno
  have hfl := hfs.length
  have hdl := hok.dlen
  have hl1000 : (dxs ++ vxs ++ namesOf es js ++ rxs).length ≤ 1000 := by
    rw [List.length_append, List.length_append]; omega
  rw [List.length_append, List.length_append] at hns
  focus
    iterate 9 ((try dsimp only); walk1)
    ((try dsimp only); refine len_L (by first | exact isListOf (News.get (by assumption) (by k_search 3)) | exact isListOf (News.get (by assumption) (by repeat (first | with_reducible assumption | refine List.mem_cons_of_mem _ ?_))) | exact Heap.IsList.at (by assumption) (fun o e => Fr.keep (by assumption) _ o e)) (by k_search 4) ?_; (intro _ _))
    iterate 4 ((try dsimp only); walk1)
  all_goals (try dsimp only)
  rename Fr _ _ _ _ => Fa
  rename News _ _ _ _ => Na
  refine dictcomp_ones Fa (modules_low (Top.nolimit Tp)) rfl rfl (by decide) rfl (by decide) (by decide) (by decide) ?_
  focus
    ((try dsimp only); walk1)
  refine ⟨Nm, nvs, _, _, rfl, Fa, Na, isListOf (News.get Na (.head _)), hnvs, hl1000, ?_⟩
  intro Dd oDd h9 tk9 kvs Fb Nb of9 hsy hdo hks
  have hkl : kvs.length = nvs.length := by
    have := congrArg List.length hks
    rw [List.length_map] at this
    rw [this, hnvs.length]
    exact dedS_len.mpr hnd
  clear Fa Na
  focus
    ((try dsimp only); walk1)
  all_goals (try dsimp only)
  refine call_len_dict (knd := SK w) hsy (Heap.dictOf_iff.mpr ⟨oDd, News.get Nb (.head _), hdo⟩) (by omega) ?_
  replace Nb := News.tail1 Nb
  clear of9 hsy hdo hks
  focus
    focus (iterate 9 ((try dsimp only); walk1))
    rotate_left
    focus (iterate 14 ((try dsimp only); walk1))
    focus ((try dsimp only); refine isi_ty (by assumption) (by assumption) (ty_tail (by with_reducible assumption) (fun a o e => News.get (by assumption) (by repeat (first | exact e | refine List.Mem.tail _ ?_)))) ?_; (intro _))
    focus (iterate 6 ((try dsimp only); walk1))
    focus ((try dsimp only); refine tyE_number (by assumption) (by assumption) (ty_tail (by with_reducible assumption) (fun a o e => News.get (by assumption) (by repeat (first | exact e | refine List.Mem.tail _ ?_)))) (by with_reducible assumption) ?_)
    focus (iterate 12 ((try dsimp only); walk1))
    rotate_left
    focus (iterate 7 ((try dsimp only); walk1))
    focus ((try dsimp only); refine rows_comp (by assumption) rfl rfl (by decide) rfl (by decide) (by decide) (by decide) ?_)
    focus (iterate 2 ((try dsimp only); walk1))
    focus ((try dsimp only); refine tyE_comps (by assumption) (by assumption) (ty_tail (by with_reducible assumption) (fun a o e => News.get (by assumption) (by repeat (first | exact e | refine List.Mem.tail _ ?_)))) (by with_reducible assumption) ?_)
    focus (((with_reducible show RowsSrc _ _ _ _ _ _); first | refine rowsSrc_base (by assumption) (by assumption) (by with_reducible assumption) (by k_search 5) (by k_search 4) ?_ | refine rowsSrc_led (by assumption) (by assumption) (by k_search 3) (by k_search 5) (by k_search 4) ?_); (intro _ _ _ _ hw y5 y6 y7; (have hwl := StrsAre.length hw); (try simp only [List.length_cons, List.length_nil, List.length_drop, List.length_append] at hwl); revert hw y5 y6 y7 hwl; intro _ _ _ _ _))
    focus (iterate 10 ((try dsimp only); walk1))
    focus ((try dsimp only); refine len_L (by first | exact isListOf (News.get (by assumption) (by k_search 3)) | exact isListOf (News.get (by assumption) (by repeat (first | with_reducible assumption | refine List.mem_cons_of_mem _ ?_))) | exact Heap.IsList.at (by assumption) (fun o e => Fr.keep (by assumption) _ o e)) (by k_search 4) ?_; (intro _ _))
    focus (iterate 2 ((try dsimp only); walk1))
    focus ((try dsimp only); refine' slice_fromH (by assumption) (by assumption) ?l3 ?_ ?s3 ?z3; (case l3 => first | exact isListOf (News.get (by assumption) (by k_search 3)) | exact isListOf (News.get (by assumption) (by repeat (first | with_reducible assumption | refine List.mem_cons_of_mem _ ?_))) | exact Heap.IsList.at (by assumption) (fun o e => Fr.keep (by assumption) _ o e)); (case s3 => with_unfolding_all rfl); (case z3 => k_search 4); (intro _ _ _ _ lt; (try replace lt := allLt_of lt); revert lt; intro _))
    focus ((try dsimp only); refine ne_tail (by first | exact isListOf (News.get (by assumption) (by k_search 3)) | exact isListOf (News.get (by assumption) (by repeat (first | with_reducible assumption | refine List.mem_cons_of_mem _ ?_))) | exact Heap.IsList.at (by assumption) (fun o e => Fr.keep (by assumption) _ o e)) (by first | exact isListOf (News.get (by assumption) (by k_search 3)) | exact isListOf (News.get (by assumption) (by repeat (first | with_reducible assumption | refine List.mem_cons_of_mem _ ?_))) | exact Heap.IsList.at (by assumption) (fun o e => Fr.keep (by assumption) _ o e)) (by with_reducible assumption) (by with_reducible assumption) (by omega) (by k_search 2) ?_)
    focus (iterate 12 ((try dsimp only); walk1))
    rotate_left
  all_goals first | (exfalso; omega) | skip
  all_goals (try dsimp only)
  rename News _ _ _ _ => N5
  rename Fr _ _ _ _ => F5
  have N6 := News.tail1 (News.tail1 (News.tail1 N5))
  clear N5
  have d0 : @Ne Nat D bag := hD bag (by simp)
  have d1 : @Ne Nat D used := hD used (by simp)
  have d2 : @Ne Nat D bk := hD bk (by simp)
  have d3 : @Ne Nat D tyl := hD tyl (by simp)
  focus
    ((try dsimp only); refine' append_L ?F1 ?N1 ?U1 ?z1 ?_; (case F1 => assumption); (case N1 => assumption); (case U1 => k_updF); (case z1 => k_search 4); (intro _ _ _ N'; (try dsimp only [List.cons_append, List.nil_append] at N'); revert N'; intro _))
    iterate 13 ((try dsimp only); walk1)
    ((try dsimp only); refine rows_comp (by assumption) rfl rfl (by decide) rfl (by decide) (by decide) (by decide) ?_)
    ((try dsimp only); walk1)
    (((with_reducible show RowsSrc _ _ _ _ _ _); first | refine rowsSrc_base (by assumption) (by assumption) (by with_reducible assumption) (by k_search 5) (by k_search 4) ?_ | refine rowsSrc_led (by assumption) (by assumption) (by k_search 3) (by k_search 5) (by k_search 4) ?_); (intro _ _ _ _ hw y5 y6 y7; (have hwl := StrsAre.length hw); (try simp only [List.length_cons, List.length_nil, List.length_drop, List.length_append] at hwl); revert hw y5 y6 y7 hwl; intro _ _ _ _ _))
    iterate 3 ((try dsimp only); walk1)
    ((try dsimp only); refine' append_L ?F2 ?N2 ?U2 ?z2 ?_; (case F2 => assumption); (case N2 => assumption); (case U2 => k_updF); (case z2 => k_search 4); (intro _ _ _ N'; (try dsimp only [List.cons_append, List.nil_append] at N'); revert N'; intro _))
    iterate 2 ((try dsimp only); walk1)
  all_goals (try dsimp only)
  rename News _ _ _ _ => N9
  rename Fr _ _ _ _ => F9
  exact law_ok_end F9 N9 (by assumption) (by assumption) (by assumption) (by assumption) hi hok hIo hoI hIt hR hrl hb hlim hus hxl hel hep hnum hup hnd hty hTp hTn hTc hTd hTv hTt hDc hcr hp huj
end
set_option maxHeartbeats 1000000
section

set_option maxHeartbeats 8000000
theorem law_turn (w : World) (mean mg mb) (dp un : Nat) (gd : Option (List Code)) (f : Addr) (cd : Value) (A₀ : Around) (h₀ : Heap) (L bag used bk tyl scr wh fx I : Addr) (o1 o2 o3 o4 o5 o6 oI : Obj) (mR m₁ : FMap) (dxs vxs : List PySem.Str) (lim : Int) (i : Nat) (ti : Tok) (news₁ : List (Addr × Obj)) (h : Heap) (tk : Nat) (s0 : Shared) (Q : Flow → Shared → Prop) (E' : Value → Shared → Prop)
    (B : Below A₀ h₀ [] h₀) (X : (hd.heap_1 w.params).In h₀) (Tp : TP mean mg mb h₀) (hd : dp + 200 < recursionLimit) (hu : un + 9800 < cLine) (hi : i < 6) (hlim : lim ≤ 100) (J : LawJ w L bag used bk tyl scr wh fx o1 o2 o3 o4 o5 o6 mR dxs vxs lim i m₁ news₁)
    (F : Fr h₀ L h (fun y => if y = Str.ofString "turn" then some (.int (i : Int) ti) else m₁ y)) (N : News h₀ L h ((I, oI) :: news₁)) (offI : ∀ p ∈ news₁, @Ne Nat p.1 I)
    (k1 : o1.data = .cell (some (.ref bag))) (k2 : o2.data = .cell (some (.ref wh))) (k3 : o3.data = .cell (some (.ref used))) (k4 : o4.data = .cell (some (.ref tyl))) (e0_1 : @Ne Nat (bag) (used)) (e0_2 : @Ne Nat (bag) (bk)) (e0_3 : @Ne Nat (bag) (tyl)) (e0_4 : @Ne Nat (bag) (L + 1 + 1 + 1 + 1 + 1 + 1)) (e0_5 : @Ne Nat (bag) (L + 1 + 1 + 1 + 1 + 1)) (e0_6 : @Ne Nat (bag) (L + 1 + 1 + 1 + 1)) (e0_7 : @Ne Nat (bag) (L + 1 + 1 + 1)) (e0_8 : @Ne Nat (bag) (L + 1 + 1)) (e0_9 : @Ne Nat (bag) (L + 1)) (e1_2 : @Ne Nat (used) (bk)) (e1_3 : @Ne Nat (used) (tyl)) (e1_4 : @Ne Nat (used) (L + 1 + 1 + 1 + 1 + 1 + 1)) (e1_5 : @Ne Nat (used) (L + 1 + 1 + 1 + 1 + 1)) (e1_6 : @Ne Nat (used) (L + 1 + 1 + 1 + 1)) (e1_7 : @Ne Nat (used) (L + 1 + 1 + 1)) (e1_8 : @Ne Nat (used) (L + 1 + 1)) (e1_9 : @Ne Nat (used) (L + 1)) (e2_3 : @Ne Nat (bk) (tyl)) (e2_4 : @Ne Nat (bk) (L + 1 + 1 + 1 + 1 + 1 + 1)) (e2_5 : @Ne Nat (bk) (L + 1 + 1 + 1 + 1 + 1)) (e2_6 : @Ne Nat (bk) (L + 1 + 1 + 1 + 1)) (e2_7 : @Ne Nat (bk) (L + 1 + 1 + 1)) (e2_8 : @Ne Nat (bk) (L + 1 + 1)) (e2_9 : @Ne Nat (bk) (L + 1)) (e3_4 : @Ne Nat (tyl) (L + 1 + 1 + 1 + 1 + 1 + 1)) (e3_5 : @Ne Nat (tyl) (L + 1 + 1 + 1 + 1 + 1)) (e3_6 : @Ne Nat (tyl) (L + 1 + 1 + 1 + 1)) (e3_7 : @Ne Nat (tyl) (L + 1 + 1 + 1)) (e3_8 : @Ne Nat (tyl) (L + 1 + 1)) (e3_9 : @Ne Nat (tyl) (L + 1)) :
    wpAny (model PySem.Challenge.rw_pb0010_01.row.prog w) (topA dp un gd (lawEnv L f cd) []) (execs lawTurn (lawEnv L f cd)) (TurnEnd h₀ L I oI (fun _ => True) (LawJ w L bag used bk tyl scr wh fx o1 o2 o3 o4 o5 o6 mR dxs vxs lim (i + 1)) Q s0) E' { s0 with heap := h, toks := tk } := by
  refine byNo fun hno => ?_
  obtain ⟨v1, v2, v3, v4, v5, v6, ob, us, n1, xs, bs, n2, n3, ts, es, tl, rfl, rfl, hIo, hok1, hb, hus, hxl, hel, hnum, hep, hup⟩ := J
  refine hno ?_
  clear hno
  dsimp only [lawTurn, forBody, lawEnv, lawDef, funScope, funBody, PySem.Challenge.pw_pb0010_01, List.getLast?, List.getLast, Option.getD, List.getD, List.getElem?_cons_zero, List.getElem?_cons_succ]
  dsimp only [setAll, lawMap] at F
  have hIt := lawOff_of (off1_of offI) (fun p hp => by
      rcases List.mem_cons.mp hp with h | hp
      · rw [h]; exact .head _
      rcases List.mem_cons.mp hp with h | hp
      · rw [h]; exact .tail _ (.head _)
      · exact .tail _ (.tail _ (List.mem_append_left _ hp)))
  have hoI : Off1 I tl := off1_of fun p hp => offI p (.tail _ (.tail _ (List.mem_append_right _ hp)))
  replace N : News h₀ L h ((bag, ob) :: (used, listOf us.toArray n1) :: (((I, oI) :: (lawPre L bk tyl (listOf bs.toArray n2) (listOf (ts.map fun p => Value.ref p.1).toArray n3) o1 o2 o3 o4 o5 o6)) ++ tl)) := fun p hp => N p (by
    rcases List.mem_cons.mp hp with h | hp
    · rw [h]; exact .tail _ (.head _)
    rcases List.mem_cons.mp hp with h | hp
    · rw [h]; exact .tail _ (.tail _ (.head _))
    rcases List.mem_cons.mp hp with h | hp
    · rw [h]; exact .head _
    · exact .tail _ (.tail _ (.tail _ hp)))
  dsimp only [List.cons_append, List.nil_append] at N
  have i0 := hIt bag (by simp)
  have i1 := hIt used (by simp)
  have tb := hIo bag (by simp)
  have tu := hIo used (by simp)
  have hsc := hok1.scr
  have hnb : @Ne Nat scr bag := by
    refine byNo fun hno => ?_
    obtain ⟨_, _, _, e, _⟩ := hsc
    refine hno ?_
    clear hno
    exact off1_mem tb _ e
  have hT := hok1.tys
  have htl := hT.len
  have hlm : (List.map (fun p => Value.ref p.1) ts).length = es.length := by rw [List.length_map, htl]
  have hxx := hus.length
  focus
    (iterate 14 ((try dsimp only); walk1))
    ((try dsimp only); refine len_L (by first | exact isListOf (News.get (by assumption) (by k_search 3)) | exact isListOf (News.get (by assumption) (by repeat (first | with_reducible assumption | refine List.mem_cons_of_mem _ ?_))) | exact Heap.IsList.at (by assumption) (fun o e => Fr.keep (by assumption) _ o e)) (by k_search 4) ?_; (intro _ _))
    (iterate 2 ((try dsimp only); walk1))
    ((try dsimp only); refine' roll_use ?B3 ?F3 ?X3 ?N3 ?T3 rfl rfl ?d3 ?u3 ?U3 ?b3 ?l3 ?S3 ?n3 ?s03 ?s13 ?_; (case B3 => assumption); (case F3 => assumption); (case X3 => assumption); (case N3 => assumption); (case T3 => assumption); (case d3 => k_search 2); (case u3 => k_search 2); (case U3 => k_updF); (case b3 => assumption); (case l3 => omega); (case S3 => exact scr_tail (by with_reducible assumption) (fun a o e => News.get (by assumption) (by repeat (first | exact e | refine List.Mem.tail _ ?_)))); (case n3 => with_reducible assumption); (case s03 => omega); (case s13 => omega); (intro _ _ _ _ _ _ _ _ N'; (try dsimp only [List.cons_append, List.nil_append] at N'); revert N'; intro _))
    (iterate 3 ((try dsimp only); walk1))
  all_goals (try dsimp only)
  rename Fr _ _ _ _ => F1
  rename News _ _ _ _ => N1
  rename BagO _ _ _ _ => hb1
  rename_i va ta ob1 h1 tk1 hva _
  refine byNo fun hno => ?_
  obtain ⟨a, rfl⟩ : ∃ a : Nat, va = (a : Int) := ⟨va.toNat, (Int.toNat_of_nonneg hva.1).symm⟩
  refine hno ?_
  clear hno
  rw [hlm] at hva
  refine Assign_ListComp_U F1 rfl (by first | rfl | with_unfolding_all rfl) rfl (by decide) rfl (by decide) (by decide) rfl rfl ?_
  focus
    (iterate 13 ((try dsimp only); walk1))
    ((try dsimp only); refine' roll_use ?B2 ?F2 ?X2 ?N2 ?T2 rfl rfl ?d2 ?u2 ?U2 ?b2 ?l2 ?S2 ?n2 ?s02 ?s12 ?_; (case B2 => assumption); (case F2 => assumption); (case X2 => assumption); (case N2 => assumption); (case T2 => assumption); (case d2 => k_search 2); (case u2 => k_search 2); (case U2 => k_updF); (case b2 => assumption); (case l2 => omega); (case S2 => exact scr_tail (by with_reducible assumption) (fun a o e => News.get (by assumption) (by repeat (first | exact e | refine List.Mem.tail _ ?_)))); (case n2 => with_reducible assumption); (case s02 => omega); (case s12 => omega); (intro _ _ _ _ _ _ _ _ N'; (try dsimp only [List.cons_append, List.nil_append] at N'); revert N'; intro _))
    ((try dsimp only); walk1)
  all_goals (try dsimp only)
  rename Fr _ _ _ _ => F2
  rename News _ _ _ _ => N2
  rename BagO _ _ _ _ => hb2
  rename_i vk tk2 ob2 h2 tk3 hvk
  have pbag : Off1 bag ((I, oI) :: (lawPre L bk tyl (listOf bs.toArray n2) (listOf (ts.map fun p => Value.ref p.1).toArray n3) o1 o2 o3 o4 o5 o6)) := ⟨i0, e0_2.symm, e0_3.symm, e0_4.symm, e0_5.symm, e0_6.symm, e0_7.symm, e0_8.symm, e0_9.symm, trivial⟩
  have pused : Off1 used ((I, oI) :: (lawPre L bk tyl (listOf bs.toArray n2) (listOf (ts.map fun p => Value.ref p.1).toArray n3) o1 o2 o3 o4 o5 o6)) := ⟨i1, e1_2.symm, e1_3.symm, e1_4.symm, e1_5.symm, e1_6.symm, e1_7.symm, e1_8.symm, e1_9.symm, trivial⟩
  have tp0 : ∀ q ∈ (I, oI) :: (lawPre L bk tyl (listOf bs.toArray n2) (listOf (ts.map fun p => Value.ref p.1).toArray n3) o1 o2 o3 o4 o5 o6), Off1 q.1 tl := fun q hq => by
    rcases List.mem_cons.mp hq with h | hq
    · rw [h]; exact hoI
    · exact lawPre_off hIo q hq
  refine comp_range (RowsJ w bag used scr ((I, oI) :: (lawPre L bk tyl (listOf bs.toArray n2) (listOf (ts.map fun p => Value.ref p.1).toArray n3) o1 o2 o3 o4 o5 o6)) tl (lim + 10 * i + 1 + 1) xs) (by omega) (by omega) rfl F2 N2 ⟨ob2, us, n1, [], tl, rfl, fun _ h => h, tb, tu, tp0, by simpa using hb2, by simpa using hus, rfl, RowsR.nil⟩ ?step ?fin
  case step =>
    rintro i' ys news v I' oI' C oC D m₂ h3 tk4 E2 hi' ⟨ob', us', n', rxs, tl', rfl, tsub, t1, t2, tp, hb', hus', hrl, hR⟩ hC hx F3 N3 off3 ne
    have N4 := N3
    dsimp only [List.cons_append, List.nil_append] at N3
    clear F1 N1 F2 N2
    focus
      (iterate 12 ((try dsimp only); walk1))
    all_goals (try dsimp only)
    exact row_step B F3 X Tp N4 rfl rfl (by k_search 2) (by k_search 2) (hsc.mono fun a o e => tsub _ e) (by omega) (by omega) tsub t1 t2 tp pbag pused e0_1 hb' hus' hrl hR off3
  case fin =>
    clear F1 N1 F2 N2
    rintro ys news' D h3 tk4 ⟨ob', us', n', rxs, tl', rfl, tsub, t1, t2, tp, hb', hus', hrl, hR⟩ F3 N3 ofD
    have ofD0 := ofD
    dsimp only [List.cons_append, List.nil_append] at N3 ofD
    simp only [Off1] at ofD
    have hDI : @Ne Nat D I := ofD.2.2.1.symm
    (repeat (obtain ⟨_, ofD⟩ := ofD))
    refine byNo fun hno => ?_
    obtain ⟨k, rfl⟩ : ∃ k : Nat, vk = (k : Int) := ⟨vk.toNat, (Int.toNat_of_nonneg hvk.1).symm⟩
    refine hno ?_
    clear hno
    rw [Int.toNat_natCast] at hrl hb'
    have hIo' := lawOff_pre t1 t2 fun q hq => tp q (.tail _ hq)
    have hoI' := tp (I, oI) (.head _)
    have hok2 := hok1.mono tsub
    clear hok1 hIo hT hsc hoI
    have hsc := hok2.scr
    have hT := hok2.tys
    have hents := hok2.ents
    have hown := hT.own
    have hsm := hT.small
    refine byNo fun hno => ?_
    obtain ⟨fvs, nf, hfx, hfs⟩ := hok2.fixed
    refine hno ?_
    clear hno
    have hfl := hfs.length
    have hdl := hok2.dlen
    have hal : a < es.length := by omega
    refine byNo fun hno => ?_
    obtain ⟨js, huj, hjl, hjb⟩ := hT.up a hal
    obtain ⟨p, hp⟩ := hT.get hal
    refine hno ?_
    clear hno
    have hpp : (List.map (fun p => Value.ref p.1) ts)[((a : Nat) : Int).toNat]? = some (.ref p.1) := by simp [hp]
    have hyl := hR.1
    focus
      (iterate 14 ((try dsimp only); walk1))
      ((try dsimp only); refine names_use (by assumption) (by assumption) (by assumption) (by assumption) (by assumption) rfl rfl (by k_search 2) (by k_search 2) (News.get (by assumption) (by k_search 3)) (ents_tail (by with_reducible assumption) (fun a o e => News.get (by assumption) (by repeat (first | exact e | refine List.Mem.tail _ ?_)))) (by with_reducible assumption) (by omega) (by omega) (by omega) (by assumption) ?_; (intro _ _ _ _ _ _ _ _ _ _))
      ((try dsimp only); refine add_L (by assumption) (by assumption) (by first | exact isListOf (News.get (by assumption) (by k_search 3)) | exact isListOf (News.get (by assumption) (by repeat (first | with_reducible assumption | refine List.mem_cons_of_mem _ ?_))) | exact Heap.IsList.at (by assumption) (fun o e => Fr.keep (by assumption) _ o e)) (by first | exact isListOf (News.get (by assumption) (by k_search 3)) | exact isListOf (News.get (by assumption) (by repeat (first | with_reducible assumption | refine List.mem_cons_of_mem _ ?_))) | exact Heap.IsList.at (by assumption) (fun o e => Fr.keep (by assumption) _ o e)) ?_ (by k_search 4); (intro _ _ _ _ lt; (try replace lt := allLt_of lt); revert lt; intro _))
      ((try dsimp only); refine rows_comp (by assumption) rfl rfl (by decide) rfl (by decide) (by decide) (by decide) ?_)
      ((try dsimp only); walk1)
      (((with_reducible show RowsSrc _ _ _ _ _ _); first | refine rowsSrc_base (by assumption) (by assumption) (by with_reducible assumption) (by k_search 5) (by k_search 4) ?_ | refine rowsSrc_led (by assumption) (by assumption) (by k_search 3) (by k_search 5) (by k_search 4) ?_); (intro _ _ _ _ hw y5 y6 y7; (have hwl := StrsAre.length hw); (try simp only [List.length_cons, List.length_nil, List.length_drop, List.length_append] at hwl); revert hw y5 y6 y7 hwl; intro _ _ _ _ _))
      ((try dsimp only); refine add_L (by assumption) (by assumption) (by first | exact isListOf (News.get (by assumption) (by k_search 3)) | exact isListOf (News.get (by assumption) (by repeat (first | with_reducible assumption | refine List.mem_cons_of_mem _ ?_))) | exact Heap.IsList.at (by assumption) (fun o e => Fr.keep (by assumption) _ o e)) (by first | exact isListOf (News.get (by assumption) (by k_search 3)) | exact isListOf (News.get (by assumption) (by repeat (first | with_reducible assumption | refine List.mem_cons_of_mem _ ?_))) | exact Heap.IsList.at (by assumption) (fun o e => Fr.keep (by assumption) _ o e)) ?_ (by k_search 4); (intro _ _ _ _ lt; (try replace lt := allLt_of lt); revert lt; intro _))
      (iterate 15 ((try dsimp only); walk1))
      ((try dsimp only); refine' roll_use ?B1 ?F1 ?X1 ?N1 ?T1 rfl rfl ?d1 ?u1 ?U1 ?b1 ?l1 ?S1 ?n1 ?s01 ?s11 ?_; (case B1 => assumption); (case F1 => assumption); (case X1 => assumption); (case N1 => assumption); (case T1 => assumption); (case d1 => k_search 2); (case u1 => k_search 2); (case U1 => k_updF); (case b1 => assumption); (case l1 => omega); (case S1 => exact scr_tail (by with_reducible assumption) (fun a o e => News.get (by assumption) (by repeat (first | exact e | refine List.Mem.tail _ ?_)))); (case n1 => with_reducible assumption); (case s01 => omega); (case s11 => omega); (intro _ _ _ _ _ _ _ _ N'; (try dsimp only [List.cons_append, List.nil_append] at N'); revert N'; intro _))
      (iterate 12 ((try dsimp only); walk1))
      ((try dsimp only); refine item_at (by first | exact isListOf (News.get (by assumption) (by k_search 3)) | exact isListOf (News.get (by assumption) (by repeat (first | with_reducible assumption | refine List.mem_cons_of_mem _ ?_))) | exact Heap.IsList.at (by assumption) (fun o e => Fr.keep (by assumption) _ o e)) (by omega) (by omega) (by with_reducible assumption) ?_)
      (iterate 13 ((try dsimp only); walk1))
    all_goals (try dsimp only)
    rename_i Nm hA ltA hS1 hS2 vl tvl ob5 hB tkB hvl5 hb5 hC F5 N5
    rename StrsAre _ (namesOf es js) => hvs
    rename StrsAre _ rxs => hws
    obtain ⟨nvs, hnvs, N6⟩ : ∃ nvs, StrsAre nvs (dxs ++ vxs ++ namesOf es js ++ rxs) ∧ News h₀ L hC ((Nm, listOf nvs.toArray 0) :: (D, lst ys) :: (bag, ob5) :: (used, listOf us'.toArray n') :: (I, oI) :: ((lawPre L bk tyl (listOf bs.toArray n2) (listOf (ts.map fun p => Value.ref p.1).toArray n3) o1 o2 o3 o4 o5 o6) ++ tl')) := ⟨_, (hfs.append' hvs).append' hws, fun p hp => N5 p (by
      rcases List.mem_cons.mp hp with h | hp
      · rw [h]; exact .head _
      rcases List.mem_cons.mp hp with h | hp
      · rw [h]; exact .tail _ (.tail _ (.tail _ (.tail _ (.head _))))
      · exact .tail _ (.tail _ (.tail _ (.tail _ (.tail _ hp)))))⟩
    clear N5
    have subL : ∀ q ∈ (bag, ob5) :: (used, listOf us'.toArray n') :: (lawPre L bk tyl (listOf bs.toArray n2) (listOf (ts.map fun p => Value.ref p.1).toArray n3) o1 o2 o3 o4 o5 o6), q ∈ (Nm, listOf nvs.toArray 0) :: (D, lst ys) :: (bag, ob5) :: (used, listOf us'.toArray n') :: (I, oI) :: ((lawPre L bk tyl (listOf bs.toArray n2) (listOf (ts.map fun p => Value.ref p.1).toArray n3) o1 o2 o3 o4 o5 o6) ++ tl') := fun q hq => by
      rcases List.mem_cons.mp hq with h | hq
      · rw [h]; exact .tail _ (.tail _ (.head _))
      rcases List.mem_cons.mp hq with h | hq
      · rw [h]; exact .tail _ (.tail _ (.tail _ (.head _)))
      · exact .tail _ (.tail _ (.tail _ (.tail _ (.tail _ (List.mem_append_left _ hq)))))
    have hD := lawOff_of (x := D) (ob := ob') (uo := listOf us'.toArray n') ofD0 (fun q hq => by
      rcases List.mem_cons.mp hq with h | hq
      · rw [h]; exact .head _
      rcases List.mem_cons.mp hq with h | hq
      · rw [h]; exact .tail _ (.head _)
      · exact .tail _ (.tail _ (List.mem_append_left _ (.tail _ hq))))
    have up7 : ∀ a o, (a, o) ∈ tl' → hC.get? a = some o := fun a o e => News.get N6 (.tail _ (.tail _ (.tail _ (.tail _ (.tail _ (List.mem_append_right _ e))))))
    refine byNo fun hno => ?_
    obtain ⟨dvs, cvs, hTH, z1, z2, z3⟩ := hT.typeH hp huj hjl
    refine hno ?_
    clear hno
    refine extended_use B F5 X N6 Tp rfl rfl (by k_search 2) (by k_search 2) ⟨z1, z2, by omega, z3⟩ rfl rfl rfl (hTH.mono up7) (News.get N6 (.tail _ (.head _))) (hR.mono up7) ?ok ?no
    case ok =>
      intro hn x d op od oo T' Dc n8 h8 tk8 F8 N8 off hty hoo hs hTT
      have hn2 := nd_swap.mp hn
      have l1 := lawOff_of off.1 subL
      have l2 := lawOff_of off.2.1 subL
      have l3 := lawOff_of off.2.2.1 subL
      have l4 := lawOff_of off.2.2.2 subL
      have mI : (I, oI) ∈ (Nm, listOf nvs.toArray 0) :: (D, lst ys) :: (bag, ob5) :: (used, listOf us'.toArray n') :: (I, oI) :: ((lawPre L bk tyl (listOf bs.toArray n2) (listOf (ts.map fun p => Value.ref p.1).toArray n3) o1 o2 o3 o4 o5 o6) ++ tl') := .tail _ (.tail _ (.tail _ (.tail _ (.head _))))
      have hoI2 : Off1 I ((Dc, listOf (cvs ++ ys).toArray n8) :: (op, oo) :: (x, instObj 94 d) :: (d, od) :: tl') := ⟨off1_at off.1 mI, off1_at off.2.1 mI, off1_at off.2.2.1 mI, off1_at off.2.2.2 mI, hoI'⟩
      have hIo2 := (((hIo'.cons (p := (d, od)) l4).cons (p := (x, instObj 94 d)) l3).cons (p := (op, oo)) l2).cons (p := (Dc, listOf (cvs ++ ys).toArray n8)) l1
      have tsub2 : ∀ q ∈ tl', q ∈ (Dc, listOf (cvs ++ ys).toArray n8) :: (op, oo) :: (x, instObj 94 d) :: (d, od) :: tl' := fun q hq => .tail _ (.tail _ (.tail _ (.tail _ hq)))
      have hty2 : TyH w (InL ((Dc, listOf (cvs ++ ys).toArray n8) :: (op, oo) :: (x, instObj 94 d) :: (d, od) :: tl')) x T' := ⟨d, od, op, oo, .tail _ (.tail _ (.head _)), .tail _ (.tail _ (.tail _ (.head _))), hty, hTT.2.2.2.2.2.2, .tail _ (.head _), hoo, hs.1, hs.2⟩
      have hDc : (Dc, listOf (cvs ++ ys).toArray n8) ∈ (Dc, listOf (cvs ++ ys).toArray n8) :: (op, oo) :: (x, instObj 94 d) :: (d, od) :: tl' := .head _
      have N9 : News h₀ L h8 ((Nm, listOf nvs.toArray 0) :: (D, lst ys) :: (bag, ob5) :: (used, listOf us'.toArray n') :: (I, oI) :: ((lawPre L bk tyl (listOf bs.toArray n2) (listOf (ts.map fun p => Value.ref p.1).toArray n3) o1 o2 o3 o4 o5 o6) ++ ((Dc, listOf (cvs ++ ys).toArray n8) :: (op, oo) :: (x, instObj 94 d) :: (d, od) :: tl'))) := fun q hq => N8 q (by
        rcases List.mem_cons.mp hq with h | hq
        · rw [h]; exact .tail _ (.tail _ (.tail _ (.tail _ (.head _))))
        rcases List.mem_cons.mp hq with h | hq
        · rw [h]; exact .tail _ (.tail _ (.tail _ (.tail _ (.tail _ (.head _)))))
        rcases List.mem_cons.mp hq with h | hq
        · rw [h]; exact .tail _ (.tail _ (.tail _ (.tail _ (.tail _ (.tail _ (.head _))))))
        rcases List.mem_cons.mp hq with h | hq
        · rw [h]; exact .tail _ (.tail _ (.tail _ (.tail _ (.tail _ (.tail _ (.tail _ (.head _)))))))
        rcases List.mem_cons.mp hq with h | hq
        · rw [h]; exact .tail _ (.tail _ (.tail _ (.tail _ (.tail _ (.tail _ (.tail _ (.tail _ (.head _))))))))
        rcases List.mem_append.mp hq with hq | hq
        · exact .tail _ (.tail _ (.tail _ (.tail _ (.tail _ (.tail _ (.tail _ (.tail _ (.tail _ (List.mem_append_left _ hq)))))))))
        rcases List.mem_cons.mp hq with h | hq
        · rw [h]; exact .head _
        rcases List.mem_cons.mp hq with h | hq
        · rw [h]; exact .tail _ (.head _)
        rcases List.mem_cons.mp hq with h | hq
        · rw [h]; exact .tail _ (.tail _ (.head _))
        rcases List.mem_cons.mp hq with h | hq
        · rw [h]; exact .tail _ (.tail _ (.tail _ (.head _)))
        · exact .tail _ (.tail _ (.tail _ (.tail _ (.tail _ (.tail _ (.tail _ (.tail _ (.tail _ (List.mem_append_right _ hq))))))))))
      clear N8 N6 up7
      have hTH2 := hTH
      refine byNo fun hno => ?_
      obtain ⟨_, _, _, _, hcr, _, _⟩ := hTH2
      refine hno ?_
      clear hno
      have hcr2 := hcr.mono fun a o e => tsub2 (a, o) e
      have hR2 := hR.mono fun a o e => tsub2 (a, o) e
      have hok3 := hok2.mono tsub2
      generalize (Dc, listOf (cvs ++ ys).toArray n8) :: (op, oo) :: (x, instObj 94 d) :: (d, od) :: tl' = tl2 at N9 hIo2 hty2 hDc hoI2 hcr2 hR2 hok3
      clear tsub2
      focus
        ((try dsimp only); walk1)
      all_goals (try dsimp only)
      rename Fr _ _ _ _ => F9
      rename News _ _ _ _ => NX
      exact law_ok w mean mg mb dp un gd f cd A₀ h₀ L bag used bk tyl scr wh fx I Nm D o1 o2 o3 o4 o5 o6 oI ob5 mR dxs vxs rxs (xs ++ rxs) lim _ _ i a n' n2 n3 _ ti ta _ _ s0 Q E' us' ys nvs bs ts es js tl2 B X Tp hd hu hi hok3 hIo2 hoI2 hIt hDI hup hR2 (by omega) hnvs hjl hb5 (by omega) hus' (by rw [List.length_append]; omega) hel hep hnum NX hD k1 k2 k3 k4 e0_1 e0_2 e0_3 e0_4 e0_5 e0_6 e0_7 e0_8 e0_9 e1_2 e1_3 e1_4 e1_5 e1_6 e1_7 e1_8 e1_9 e2_3 e2_4 e2_5 e2_6 e2_7 e2_8 e2_9 e3_4 e3_5 e3_6 e3_7 e3_8 e3_9 hn2 x Dc n8 T' p cvs _ hty2 hTT.1 hTT.2.1 hTT.2.2.1 hTT.2.2.2.1 hTT.2.2.2.2.1 hTT.2.2.2.2.2.1 hDc hcr2 hp huj (Eq.mp (congrArg (Fr h₀ L _) (turn_map (base := lawMap bk fx mR))) F9)
    case no =>
      intro hn h8 tk8 F8 N8
      clear N6 up7
      focus
        ((try dsimp only); walk1)
      all_goals (try dsimp only)
      rename Fr _ _ _ _ => F9
      rename News _ _ _ _ => NX
      exact law_no w mean mg mb dp un gd f cd A₀ h₀ L bag used bk tyl scr wh fx I Nm D o1 o2 o3 o4 o5 o6 oI ob5 mR dxs vxs rxs (xs ++ rxs) lim _ _ i a n' n2 n3 _ ti ta _ _ s0 Q E' us' ys nvs bs ts es js tl' B X Tp hd hu hi hok2 hIo' hoI' hIt hDI hup hR (by omega) hnvs hjl hb5 (by omega) hus' (by rw [List.length_append]; omega) hel hep hnum NX hD k1 k2 k3 k4 e0_1 e0_2 e0_3 e0_4 e0_5 e0_6 e0_7 e0_8 e0_9 e1_2 e1_3 e1_4 e1_5 e1_6 e1_7 e1_8 e1_9 e2_3 e2_4 e2_5 e2_6 e2_7 e2_8 e2_9 e3_4 e3_5 e3_6 e3_7 e3_8 e3_9 (fun z => hn (nd_swap.mpr z)) (Eq.mp (congrArg (Fr h₀ L _) (turn_map (base := lawMap bk fx mR))) F9)
end
set_option maxHeartbeats 1000000

theorem ne_same {prog : Program} {w : World} {A : Around} {E : Value → Shared → Prop} {s : Shared} {l b : Addr} {vs ws : List Value} {xs : List PySem.Str} {Q : Value → Shared → Prop} (hl : s.heap.IsList l vs.toArray) (hb : s.heap.IsList b ws.toArray) (h1 : StrsAre vs xs) (h2 : StrsAre ws xs) (hu : A.units < cLine) (h : Q (.bool false) s) :
    wpAny (model prog w) A (compareOp .NotEq (.ref l) (.ref b)) Q E s := by
  refine ne_strs hl hb h1 h2 hu ?_
  rw [decide_eq_true rfl]; exact h
theorem lawMap_of {bk fx : Addr} {m : FMap} (h1 : m (Str.ofString "book") = some (.ref bk)) (h2 : m (Str.ofString "fixed") = some (.ref fx)) : m = lawMap bk fx m := by
  funext y
  by_cases e1 : y = Str.ofString "book"
  · subst e1; exact h1
  · by_cases e2 : y = Str.ofString "fixed"
    · subst e2; exact h2
    · show m y = if y = Str.ofString "book" then _ else if y = Str.ofString "fixed" then _ else m y
      rw [if_neg e1, if_neg e2]
noncomputable def ChkJ (L bag used bk tyl fx : Addr) (ob uo bo to o1 o2 o3 o4 o6 : Obj) (tl : List (Addr × Obj)) (mR : FMap) (lv : Value) (_i : Nat) (m₁ : FMap) (news₁ : List (Addr × Obj)) : Prop :=
  ∃ o5 c v, o5.data = .cell c ∧ m₁ = (fun y => if y = Str.ofString "other" then v else if y = Str.ofString "line" then some lv else lawMap bk fx mR y) ∧ news₁ = (bag, ob) :: (used, uo) :: (lawPre L bk tyl bo to o1 o2 o3 o4 o5 o6 ++ tl)
section

set_option maxHeartbeats 8000000
theorem law_checks (w : World) (mean mg mb) (dp un : Nat) (gd : Option (List Code)) (f : Addr) (cd : Value) (A₀ : Around) (h₀ : Heap) (L bag used bk tyl scr wh fx : Addr) (o1 o2 o3 o4 o5 o6 ob : Obj) (mR : FMap) (dxs vxs : List PySem.Str) (lim : Int) (n1 n2 n3 : Nat) (us bs : List Value) (ts : List (Addr × TF)) (es : List BE) (tl : List (Addr × Obj)) (h : Heap) (tk : Nat) (s0 : Shared) (Q : Flow → Shared → Prop) (E' : Value → Shared → Prop)
    (B : Below A₀ h₀ [] h₀) (X : (hd.heap_1 w.params).In h₀) (Tp : TP mean mg mb h₀) (hd : dp + 200 < recursionLimit) (hu : un + 9800 < cLine) (hlim : lim ≤ 300) (hok : LawOK w tl scr wh fx bs ts es dxs vxs) (hIo : LawOff L bag used bk tyl tl) (hb : BagO w scr lim ob) (hep : 0 < es.length)
    (F : Fr h₀ L h (lawMap bk fx mR)) (N : News h₀ L h ((bag, ob) :: (used, listOf us.toArray n1) :: ((lawPre L bk tyl (listOf bs.toArray n2) (listOf (ts.map fun p => Value.ref p.1).toArray n3) o1 o2 o3 o4 o5 o6) ++ tl)))
    (k1 : o1.data = .cell (some (.ref bag))) (k2 : o2.data = .cell (some (.ref wh))) (k3 : o3.data = .cell (some (.ref used))) (k4 : o4.data = .cell (some (.ref tyl))) (k5 : ∃ c, o5.data = .cell c) (e0_1 : @Ne Nat (bag) (used)) (e0_2 : @Ne Nat (bag) (bk)) (e0_3 : @Ne Nat (bag) (tyl)) (e0_4 : @Ne Nat (bag) (L + 1 + 1 + 1 + 1 + 1 + 1)) (e0_5 : @Ne Nat (bag) (L + 1 + 1 + 1 + 1 + 1)) (e0_6 : @Ne Nat (bag) (L + 1 + 1 + 1 + 1)) (e0_7 : @Ne Nat (bag) (L + 1 + 1 + 1)) (e0_8 : @Ne Nat (bag) (L + 1 + 1)) (e0_9 : @Ne Nat (bag) (L + 1)) (e1_2 : @Ne Nat (used) (bk)) (e1_3 : @Ne Nat (used) (tyl)) (e1_4 : @Ne Nat (used) (L + 1 + 1 + 1 + 1 + 1 + 1)) (e1_5 : @Ne Nat (used) (L + 1 + 1 + 1 + 1 + 1)) (e1_6 : @Ne Nat (used) (L + 1 + 1 + 1 + 1)) (e1_7 : @Ne Nat (used) (L + 1 + 1 + 1)) (e1_8 : @Ne Nat (used) (L + 1 + 1)) (e1_9 : @Ne Nat (used) (L + 1)) (e2_3 : @Ne Nat (bk) (tyl)) (e2_4 : @Ne Nat (bk) (L + 1 + 1 + 1 + 1 + 1 + 1)) (e2_5 : @Ne Nat (bk) (L + 1 + 1 + 1 + 1 + 1)) (e2_6 : @Ne Nat (bk) (L + 1 + 1 + 1 + 1)) (e2_7 : @Ne Nat (bk) (L + 1 + 1 + 1)) (e2_8 : @Ne Nat (bk) (L + 1 + 1)) (e2_9 : @Ne Nat (bk) (L + 1)) (e3_4 : @Ne Nat (tyl) (L + 1 + 1 + 1 + 1 + 1 + 1)) (e3_5 : @Ne Nat (tyl) (L + 1 + 1 + 1 + 1 + 1)) (e3_6 : @Ne Nat (tyl) (L + 1 + 1 + 1 + 1)) (e3_7 : @Ne Nat (tyl) (L + 1 + 1 + 1)) (e3_8 : @Ne Nat (tyl) (L + 1 + 1)) (e3_9 : @Ne Nat (tyl) (L + 1))
    (K : ∀ h' tk' o5' ob' mR', (∃ c, o5'.data = .cell c) → BagO w scr (lim + 1) ob' → Fr h₀ L h' (lawMap bk fx mR') → News h₀ L h' ((bag, ob') :: (used, listOf us.toArray n1) :: ((lawPre L bk tyl (listOf bs.toArray n2) (listOf (ts.map fun p => Value.ref p.1).toArray n3) o1 o2 o3 o4 o5' o6) ++ tl)) →
      wpAny (model PySem.Challenge.rw_pb0010_01.row.prog w) (topA dp un gd (lawEnv L f cd) []) (execs ((funBody lawDef).drop 9) (lawEnv L f cd)) Q E' { s0 with heap := h', toks := tk' }) :
    wpAny (model PySem.Challenge.rw_pb0010_01.row.prog w) (topA dp un gd (lawEnv L f cd) []) (execs ((funBody lawDef).drop 7) (lawEnv L f cd)) Q E' { s0 with heap := h, toks := tk } := by
  dsimp only [lawEnv, lawDef, funScope, funBody, PySem.Challenge.pw_pb0010_01, List.getLast?, List.getLast, Option.getD, List.drop]
  dsimp only [List.cons_append, List.nil_append] at N
  refine byNo fun hno => ?_
  obtain ⟨c5, k5⟩ := k5
  refine hno ?_
  clear hno
  have tb := hIo bag (by simp)
  have tone := hIo (L + 1 + 1 + 1 + 1 + 1) (by simp)
  have hsc := hok.scr
  have hnb : @Ne Nat scr bag := by
    refine byNo fun hno => ?_
    obtain ⟨_, _, _, e, _⟩ := hsc
    refine hno ?_
    clear hno
    exact off1_mem tb _ e
  have hT := hok.tys
  have hents := hok.ents
  have hown := hT.own
  have hsm := hT.small
  have hlm : (List.map (fun p => Value.ref p.1) ts).length = es.length := by rw [List.length_map, hT.len]
  focus
    iterate 13 ((try dsimp only); walk1)
    ((try dsimp only); refine' roll_use ?B ?F ?X ?N ?T rfl rfl ?d ?u ?U ?b ?l ?S ?n ?s0 ?s1 ?_; (case B => assumption); (case F => assumption); (case X => assumption); (case N => assumption); (case T => assumption); (case d => k_search 2); (case u => k_search 2); (case U => k_updF); (case b => assumption); (case l => omega); (case S => exact scr_tail (by with_reducible assumption) (fun a o e => News.get (by assumption) (by repeat (first | exact e | refine List.Mem.tail _ ?_)))); (case n => with_reducible assumption); (case s0 => omega); (case s1 => omega); (intro _ _ _ _ _ _ _ _ N'; (try dsimp only [List.cons_append, List.nil_append] at N'); revert N'; intro _))
    iterate 4 ((try dsimp only); walk1)
    ((try dsimp only); refine For_of ?_)
    iterate 10 ((try dsimp only); walk1)
    ((try dsimp only); refine len_L (by first | exact isListOf (News.get (by assumption) (by k_search 3)) | exact isListOf (News.get (by assumption) (by repeat (first | with_reducible assumption | refine List.mem_cons_of_mem _ ?_))) | exact Heap.IsList.at (by assumption) (fun o e => Fr.keep (by assumption) _ o e)) (by k_search 4) ?_; (intro _ _))
    ((try dsimp only); walk1)
  all_goals (try dsimp only)
  rename Fr _ _ _ _ => F1
  rename News _ _ _ _ => N1
  rename BagO _ _ _ _ => hb1
  rename_i vl tvl ob1 hA tkA hvl hB tt9 tkB
  refine for_range (ChkJ L bag used bk tyl fx ob1 (listOf us.toArray n1) (listOf bs.toArray n2) (listOf (ts.map fun p => Value.ref p.1).toArray n3) o1 o2 o3 o4 o6 tl mR (.int (1 + vl) tkA)) (by omega) (by rw [hlm]; omega) rfl F1 N1 ⟨o5, c5, _, k5, map_same, rfl⟩ ?turn ?done
  case turn =>
    clear F1 N1
    rintro i t m₁ news₁ h2 tk2 I oI hi ⟨o5', c', v, k5', rfl, rfl⟩ F2 N2 offI
    have hIt := lawOff_of (off1_of offI) (fun p hp => by
      rcases List.mem_cons.mp hp with h | hp
      · rw [h]; exact .head _
      rcases List.mem_cons.mp hp with h | hp
      · rw [h]; exact .tail _ (.head _)
      · exact .tail _ (.tail _ (List.mem_append_left _ hp)))
    have i5 := hIt (L + 1 + 1 + 1 + 1 + 1) (by simp)
    dsimp only [List.cons_append, List.nil_append] at N2
    have hil : i < es.length := by omega
    refine byNo fun hno => ?_
    obtain ⟨js, huj, hjl, hjb⟩ := hT.up i hil
    obtain ⟨q, hq⟩ := hT.get hil
    refine hno ?_
    clear hno
    have hqq : (List.map (fun p => Value.ref p.1) ts)[((i : Nat) : Int).toNat]? = some (.ref q.1) := by simp [hq]
    have hty := (hT.ty i q hq).1
    refine byNo fun hno => ?_
    obtain ⟨c, nc, cvs, hc1, hc2, hc3⟩ := hT.comps i q js hq huj
    refine hno ?_
    clear hno
    have hcl := hc3.1
    have hnl := names_len (js := js) hown
    focus
      ((try dsimp only); refine wpAny_assign_Name ?_)
      iterate 4 ((try dsimp only); walk1)
      ((try dsimp only); refine rows_comp (by assumption) rfl rfl (by decide) rfl (by decide) (by decide) (by decide) ?_)
      iterate 4 ((try dsimp only); walk1)
      ((try dsimp only); refine item_at (by first | exact isListOf (News.get (by assumption) (by k_search 3)) | exact isListOf (News.get (by assumption) (by repeat (first | with_reducible assumption | refine List.mem_cons_of_mem _ ?_))) | exact Heap.IsList.at (by assumption) (fun o e => Fr.keep (by assumption) _ o e)) (by omega) (by omega) (by with_reducible assumption) ?_)
      ((try dsimp only); refine tyE_comps (by assumption) (by assumption) (ty_tail (by with_reducible assumption) (fun a o e => News.get (by assumption) (by repeat (first | exact e | refine List.Mem.tail _ ?_)))) (by with_reducible assumption) ?_)
      (((with_reducible show RowsSrc _ _ _ _ _ _); first | refine rowsSrc_base (by assumption) (by assumption) (by with_reducible assumption) (by k_search 5) (by k_search 4) ?_ | refine rowsSrc_led (by assumption) (by assumption) (by k_search 3) (by k_search 5) (by k_search 4) ?_); (intro _ _ _ _ hw y5 y6 y7; (have hwl := StrsAre.length hw); (try simp only [List.length_cons, List.length_nil, List.length_drop, List.length_append] at hwl); revert hw y5 y6 y7 hwl; intro _ _ _ _ _))
      iterate 9 ((try dsimp only); walk1)
      ((try dsimp only); refine names_use (by assumption) (by assumption) (by assumption) (by assumption) (by assumption) rfl rfl (by k_search 2) (by k_search 2) (News.get (by assumption) (by k_search 3)) (ents_tail (by with_reducible assumption) (fun a o e => News.get (by assumption) (by repeat (first | exact e | refine List.Mem.tail _ ?_)))) (by with_reducible assumption) (by omega) (by omega) (by omega) (by assumption) ?_; (intro _ _ _ _ _ _ _ _ _ _))
      ((try dsimp only); refine ne_same (by first | exact isListOf (News.get (by assumption) (by k_search 3)) | exact isListOf (News.get (by assumption) (by repeat (first | with_reducible assumption | refine List.mem_cons_of_mem _ ?_))) | exact Heap.IsList.at (by assumption) (fun o e => Fr.keep (by assumption) _ o e)) (by first | exact isListOf (News.get (by assumption) (by k_search 3)) | exact isListOf (News.get (by assumption) (by repeat (first | with_reducible assumption | refine List.mem_cons_of_mem _ ?_))) | exact Heap.IsList.at (by assumption) (fun o e => Fr.keep (by assumption) _ o e)) (by with_reducible assumption) (by with_reducible assumption) (by k_search 2) ?_)
      iterate 4 ((try dsimp only); walk1)
      ((try dsimp only); refine For_of ?_)
      iterate 10 ((try dsimp only); walk1)
      ((try dsimp only); refine len_L (by first | exact isListOf (News.get (by assumption) (by k_search 3)) | exact isListOf (News.get (by assumption) (by repeat (first | with_reducible assumption | refine List.mem_cons_of_mem _ ?_))) | exact Heap.IsList.at (by assumption) (fun o e => Fr.keep (by assumption) _ o e)) (by k_search 4) ?_; (intro _ _))
      ((try dsimp only); walk1)
    all_goals (try dsimp only)
    rename News _ _ _ _ => N3
    rename Fr _ _ _ _ => F3
    rename_i D5 n5 vs5 hC tkC boff hi5 hvl5 t5 tk5
    have hoI : Off1 I tl := off1_of fun p hp => offI p (.tail _ (.tail _ (List.mem_append_right _ hp)))
    refine byNo fun hno => ?_
    obtain ⟨o5n, hk5, N4⟩ : ∃ o5n : Obj, o5n.data = .cell (some (.int ((i : Nat) : Int) t)) ∧ News h₀ L hC ((I, oI) :: (bag, ob1) :: (used, listOf us.toArray n1) :: ((lawPre L bk tyl (listOf bs.toArray n2) (listOf (ts.map fun p => Value.ref p.1).toArray n3) o1 o2 o3 o4 o5n o6) ++ tl)) := ⟨_, by assumption, News.tail1 (News.tail1 N3)⟩
    refine hno ?_
    clear hno
    clear N3 boff
    refine for_range (fun _ m₂ news₂ => ∃ v2, m₂ = (fun y => if y = Str.ofString "other" then v2 else if y = Str.ofString "line" then some (.int (1 + vl) tkA) else lawMap bk fx mR y) ∧ news₂ = (I, oI) :: (bag, ob1) :: (used, listOf us.toArray n1) :: ((lawPre L bk tyl (listOf bs.toArray n2) (listOf (ts.map fun p => Value.ref p.1).toArray n3) o1 o2 o3 o4 o5n o6) ++ tl)) (by omega) (by rw [hlm]; omega) rfl F3 N4 ⟨_, rfl, rfl⟩ ?turn2 ?done2
    case turn2 =>
      clear F3 N4
      rintro j t2 m₂ news₂ h6 tk6 I2 oI2 hj ⟨v2, rfl, rfl⟩ F6 N6 offI2
      dsimp only [List.cons_append, List.nil_append] at N6
      focus
        ((try dsimp only); refine wpAny_assign_Name ?_)
        iterate 21 ((try dsimp only); walk1)
      all_goals (try dsimp only)
      rename News _ _ _ _ => N7
      rename Fr _ _ _ _ => F7
      have up : ∀ (a : Addr) (o : Obj), (a, o) ∈ tl → (a, o) ∈ (bk, listOf bs.toArray n2) :: (tyl, listOf (ts.map fun p => Value.ref p.1).toArray n3) :: tl := fun a o e => .tail _ (.tail _ e)
      refine SpecD.use (pair_spec w mean mg mb L ((bk, listOf bs.toArray n2) :: (tyl, listOf (ts.map fun p => Value.ref p.1).toArray n3) :: tl) ts es dxs vxs bk tyl bs n2 n3 i j _ _ _ (1 + vl) (hT.mono up) (hents.mono up) (hok.fix.mono up) (.head _) (.tail _ (.head _)) hil (by omega) (by have := hok.dlen; omega)) B F7 X N7 Tp rfl rfl (by k_search 2) (by k_search 2) ?hP ?ret
      case hP =>
        intro p hp
        have m : p ∈ (I2, oI2) :: (I, oI) :: (bag, ob1) :: (used, listOf us.toArray n1) :: ((lawPre L bk tyl (listOf bs.toArray n2) (listOf (ts.map fun p => Value.ref p.1).toArray n3) o1 o2 o3 o4 o5n o6) ++ tl) := by
          rcases List.mem_cons.mp hp with h | hp
          · rw [h]; exact .tail _ (.tail _ (.tail _ (.tail _ (.head _))))
          rcases List.mem_cons.mp hp with h | hp
          · rw [h]; exact .tail _ (.tail _ (.tail _ (.tail _ (.tail _ (.head _)))))
          · exact .tail _ (.tail _ (.tail _ (.tail _ (List.mem_append_right _ hp))))
        exact ⟨(N7 p m).1, (N7 p m).2.1⟩
      case ret =>
        rintro r new h8 tk8 F8 N8 - ⟨rfl, rfl⟩
        dsimp only [List.nil_append] at N8
        focus
          iterate 4 ((try dsimp only); walk1)
        all_goals (try dsimp only)
        exact ⟨h8, _, _, (I, oI) :: (bag, ob1) :: (used, listOf us.toArray n1) :: ((lawPre L bk tyl (listOf bs.toArray n2) (listOf (ts.map fun p => Value.ref p.1).toArray n3) o1 o2 o3 o4 o5n o6) ++ tl), rfl, Eq.mp (congrArg (Fr h₀ L _) map_again) F8, N8, offI2, trivial, _, rfl, rfl⟩
    case done2 =>
      rintro m₂ news₂ h6 tk6 ⟨v2, rfl, rfl⟩ F6 N6
      focus
        ((try dsimp only); walk1)
      all_goals (try dsimp only)
      exact ⟨h6, _, _, (bag, ob1) :: (used, listOf us.toArray n1) :: ((lawPre L bk tyl (listOf bs.toArray n2) (listOf (ts.map fun p => Value.ref p.1).toArray n3) o1 o2 o3 o4 o5n o6) ++ tl), rfl, F6, N6, law_offI hIt hoI, trivial, o5n, _, v2, hk5, rfl, rfl⟩
  case done =>
    rintro m₁ news₁ h2 tk2 ⟨o5', c', v, k5', rfl, rfl⟩ F2 N2
    exact K h2 tk2 o5' ob1 _ ⟨_, k5'⟩ hb1 (Eq.mp (congrArg (Fr h₀ L _) (lawMap_of rfl rfl)) F2) N2
end
set_option maxHeartbeats 1000000

noncomputable def ProfJ (w : World) (base tl0 : List (Addr × Obj)) (ks : List (Addr × TF)) (i : Nat) (ys : List Value) (news : List (Addr × Obj)) : Prop :=
  ∃ tl, news = base ++ tl ∧ (∀ p ∈ tl0, p ∈ tl) ∧ ProfR w (InL tl) ys (ks.take i)
theorem ProfR.snoc {w : World} {R : Addr → Obj → Prop} {vs : List Value} {ks : List (Addr × TF)} {q : Addr × TF} {a : Addr} {t : Tok} {n : Nat} (h : ProfR w R vs ks) (h1 : R a (tupOb [.str (Str.ofString "in") t, .ref q.1] n)) (h2 : TyH w R q.1 q.2) : ProfR w R (vs ++ [.ref a]) (ks ++ [q]) := by
  refine ⟨by simp [h.1], fun i x ex => ?_⟩
  by_cases hi : i < ks.length
  · rw [List.getElem?_append_left hi] at ex
    rw [List.getElem?_append_left (h.1 ▸ hi)]
    exact h.2 i x ex
  · have hi' : ks.length ≤ i := Nat.le_of_not_lt hi
    rw [List.getElem?_append_right hi'] at ex
    rw [List.getElem?_append_right (h.1 ▸ hi'), h.1]
    cases hq : i - ks.length with
    | zero => rw [hq] at ex; simp at ex; subst ex; exact ⟨a, t, n, rfl, h1, h2⟩
    | succ i => rw [hq] at ex; simp at ex
theorem prof_end {w : World} {h₀ : Heap} {L I C D T : Addr} {oI oC : Obj} {base tl0 tl' : List (Addr × Obj)} {ks : List (Addr × TF)} {q : Addr × TF} {i n tk : Nat} {t : Tok} {ys : List Value} {m : FMap} {s : Shared} {h' : Heap} {S : List (Addr × Obj) → Prop} (hS : ∀ o, S (base ++ ((T, o) :: tl')))
    (F : Fr h₀ L h' m) (N : News h₀ L h' ((T, tupOb [.str (Str.ofString "in") t, .ref q.1] n) :: (I, oI) :: (C, oC) :: (D, lst ys) :: (base ++ tl'))) (off : Off3 I C D (base ++ tl')) (ne : I < T ∧ C < T ∧ D < T) (tsub : ∀ p ∈ tl0, p ∈ tl') (hpr : ProfR w (InL tl') ys (ks.take i)) (htk : ks.take (i + 1) = ks.take i ++ [q]) (hty : TyH w (InL tl0) q.1 q.2) :
    CompEnd h₀ L m s I oI C oC D (lst ys) S (fun y news' => ProfJ w base tl0 ks (i + 1) (ys ++ [y]) news') (Value.ref T) { s with heap := h', toks := tk } := by
  refine CompEnd.intro F N (base ++ ((T, tupOb [.str (Str.ofString "in") t, .ref q.1] n) :: tl')) ?_ ?_ (hS _) ⟨(T, tupOb [.str (Str.ofString "in") t, .ref q.1] n) :: tl', rfl, fun p hp => .tail _ (tsub p hp), ?_⟩
  · intro p hp
    simp only [List.mem_cons, List.mem_append] at hp ⊢
    rcases hp with h | h | h | h | h | h <;> simp [h]
  · refine Off3.of fun p hp => ?_
    rcases List.mem_append.mp hp with h | h
    · exact Off3.mem off p (List.mem_append_left _ h)
    rcases List.mem_cons.mp h with h | h
    · rw [h]; exact ⟨Nat.ne_of_gt ne.1, Nat.ne_of_gt ne.2.1, Nat.ne_of_gt ne.2.2⟩
    · exact Off3.mem off p (List.mem_append_right _ h)
  · rw [htk]
    refine ProfR.snoc ⟨hpr.1, fun j x e => ?_⟩ (t := t) (n := n) (.head _) (hty.mono fun a o e => .tail _ (tsub _ e))
    refine byNo fun hno => ?_
    obtain ⟨a, t', n', h1, h2, h3⟩ := hpr.2 j x e
    refine hno ?_
    clear hno
    exact ⟨a, t', n', h1, .tail _ h2, h3.mono fun a o e => .tail _ e⟩
section
variable {prog : Program} {w : World} {A : Around} {E : Value → Shared → Prop} {s : Shared} {h₀ : Heap} {L : Addr} {m : FMap} {env : Env}
open PyProof.Rows.LCp in
theorem compRestP_inv {elt : PySem.Expr} {x x₂ : PySem.Str} {scope : Scope} {cl : List (PySem.Str × Addr)} {S : List (Addr × Obj) → Prop} {P : Nat → Value → Prop} {Fin : List Value → List (Addr × Obj) → Prop} {n : Nat} (J : Nat → List Value → List (Addr × Obj) → Prop)
    (step : ∀ i ys news v, i < n → J i ys news → P i v → ∃ (t : Addr) (ot : Obj) (v₁ v₂ : Value) (nt : Nat), v = .ref t ∧ (t, ot) ∈ news ∧ ot.cls = .type "tuple" ∧ ot.data = .seq #[v₁, v₂] nt ∧
      ∀ I oI C oC D m₂ h tk (E' : Value → Shared → Prop), NsObj oC m₂ → m₂ x = some v₁ → m₂ x₂ = some v₂ → Fr h₀ L h m → News h₀ L h ((I, oI) :: (C, oC) :: (D, lst ys) :: news) → Off3 I C D news → ((@Ne Nat I C) ∧ (@Ne Nat I D) ∧ (@Ne Nat C D)) →
      wpAny (model prog w) A (eval elt (compEnvC scope cl C env)) (CompEnd h₀ L m { s with heap := h, toks := tk } I oI C oC D (lst ys) S (fun y news' => J (i + 1) (ys ++ [y]) news')) E' { s with heap := h, toks := tk })
    (fin : ∀ ys news, J n ys news → Fin ys news) : ∀ k i ys news, i + k = n → J i ys news → CompRestP prog w A h₀ L m env elt x x₂ scope cl s S P Fin k i ys news
  | 0, i, ys, news, e, j => fin ys news (by have : i = n := by omega
                                            rw [← this]; exact j)
  | k + 1, i, ys, news, e, j => CompRestP.succ fun v hP => by
    refine byNo fun hno => ?_
    obtain ⟨t, ot, v₁, v₂, nt, h1, h2, h3, h4, h5⟩ := step i ys news v (by omega) j hP
    refine hno ?_
    clear hno
    exact ⟨t, ot, v₁, v₂, nt, h1, h2, h3, h4, fun I oI C oC D m₂ h tk E' hC hx hx2 F N off ne => wpAny_mono (h5 I oI C oC D m₂ h tk E' hC hx hx2 F N off ne) (fun y s₂ ⟨h', tk', news', e1, F', N', off', hS, r⟩ =>
      ⟨h', tk', news', e1, F', N', off', hS, compRestP_inv J step fin k (i + 1) _ _ (by omega) r⟩) fun _ _ z => z⟩
end
noncomputable def PairsR (R : Addr → Obj → Prop) (vs : List Value) (ns : List Int) : Prop :=
  vs.length = ns.length ∧ ∀ (i : Nat) (n : Int), ns[i]? = some n → ∃ a t u k, vs[i]? = some (.ref a) ∧ R a (tupOb [.str (Str.ofString "in") t, .int n u] k)
theorem PairsR.mono {R R' : Addr → Obj → Prop} {vs : List Value} {ns : List Int} (h : PairsR R vs ns) (k : ∀ a o, R a o → R' a o) : PairsR R' vs ns :=
  ⟨h.1, fun i n e => let ⟨a, t, u, j, h1, h2⟩ := h.2 i n e; ⟨a, t, u, j, h1, k _ _ h2⟩⟩
theorem PairsR.snoc {R : Addr → Obj → Prop} {vs : List Value} {ns : List Int} {a : Addr} {t u : Tok} {n : Int} {k : Nat} (h : PairsR R vs ns) (h1 : R a (tupOb [.str (Str.ofString "in") t, .int n u] k)) : PairsR R (vs ++ [.ref a]) (ns ++ [n]) := by
  refine ⟨by simp [h.1], fun i x ex => ?_⟩
  by_cases hi : i < ns.length
  · rw [List.getElem?_append_left hi] at ex
    rw [List.getElem?_append_left (h.1 ▸ hi)]
    exact h.2 i x ex
  · have hi' : ns.length ≤ i := Nat.le_of_not_lt hi
    rw [List.getElem?_append_right hi'] at ex
    rw [List.getElem?_append_right (h.1 ▸ hi'), h.1]
    cases hq : i - ns.length with
    | zero => rw [hq] at ex; simp at ex; subst ex; exact ⟨a, t, u, k, rfl, h1⟩
    | succ i => rw [hq] at ex; simp at ex
noncomputable def PairJ (base tl0 : List (Addr × Obj)) (ns : List Int) (i : Nat) (ys : List Value) (news : List (Addr × Obj)) : Prop :=
  ∃ tl, news = base ++ tl ∧ (∀ p ∈ tl0, p ∈ tl) ∧ PairsR (InL tl) ys (ns.take i)
theorem pair_end {h₀ : Heap} {L I C D T : Addr} {oI oC : Obj} {base tl0 tl' : List (Addr × Obj)} {ns : List Int} {i n tk : Nat} {z z' : Int} {t u : Tok} {ys : List Value} {m : FMap} {s : Shared} {h' : Heap} {S : List (Addr × Obj) → Prop} (hS : ∀ o, S (base ++ ((T, o) :: tl')))
    (F : Fr h₀ L h' m) (N : News h₀ L h' ((T, tupOb [.str (Str.ofString "in") t, .int z u] n) :: (I, oI) :: (C, oC) :: (D, lst ys) :: (base ++ tl'))) (off : Off3 I C D (base ++ tl')) (ne : I < T ∧ C < T ∧ D < T) (tsub : ∀ p ∈ tl0, p ∈ tl') (hpr : PairsR (InL tl') ys (ns.take i)) (htk : ns[i]? = some z') (hz : z = z') :
    CompEnd h₀ L m s I oI C oC D (lst ys) S (fun y news' => PairJ base tl0 ns (i + 1) (ys ++ [y]) news') (Value.ref T) { s with heap := h', toks := tk } := by
  subst hz
  refine CompEnd.intro F N (base ++ ((T, tupOb [.str (Str.ofString "in") t, .int z u] n) :: tl')) ?_ ?_ (hS _) ⟨(T, tupOb [.str (Str.ofString "in") t, .int z u] n) :: tl', rfl, fun p hp => .tail _ (tsub p hp), ?_⟩
  · intro p hp
    simp only [List.mem_cons, List.mem_append] at hp ⊢
    rcases hp with h | h | h | h | h | h <;> simp [h]
  · refine Off3.of fun p hp => ?_
    rcases List.mem_append.mp hp with h | h
    · exact Off3.mem off p (List.mem_append_left _ h)
    rcases List.mem_cons.mp h with h | h
    · rw [h]; exact ⟨Nat.ne_of_gt ne.1, Nat.ne_of_gt ne.2.1, Nat.ne_of_gt ne.2.2⟩
    · exact Off3.mem off p (List.mem_append_right _ h)
  · rw [take_snoc htk]
    exact PairsR.snoc (hpr.mono fun a o e => .tail _ e) (t := t) (u := u) (k := n) (.head _)
theorem eqv_pair (x : PySem.Str) (n : Int) : PyData.eqv (.tuple [.str x, .int n]) (.tuple [.str x, .int n]) = true := by
  rw [← SeqAt.same_eq_eqv _ _ (by rfl)]
  simp [PySem.Spec.same, PySem.Spec.sameAll]
theorem shaped_pair (n : Int) : shaped (.tuple [.str (Str.ofString "in"), .int n]) = true := by
  have h0 : PyData.canLay0 (.str (Str.ofString "in")) = true := by decide +kernel
  have h2 : PyData.depth (.tuple [.str (Str.ofString "in"), .int n]) ≤ 64 := by simp only [PyData.depth, PyData.depthAll]; decide
  show (PyData.canLay0 (.tuple [.str (Str.ofString "in"), .int n]) && decide (PyData.depth (.tuple [.str (Str.ofString "in"), .int n]) ≤ 64)) = true
  rw [Bool.and_eq_true]
  refine ⟨?_, decide_eq_true h2⟩
  simp only [PyData.canLay0, PyData.canLayAll0, Bool.and_true] at h0 ⊢
  exact h0
theorem pairs_eq {prog : Program} {w : World} {A : Around} {E : Value → Shared → Prop} {s : Shared} {l b : Addr} {vs ws : List Value} {ns : List Int} {Q : Value → Shared → Prop} (hl : s.heap.IsList l vs.toArray) (hb : s.heap.IsList b ws.toArray) (h1 : PairsR (At s.heap) vs ns) (h2 : PairsR (At s.heap) ws ns) (hu : A.in1.units + 64 < cLine) (hu2 : A.units < cLine) (h : Q (.bool true) s) :
    wpAny (model prog w) A (compareOp .Eq (.ref l) (.ref b)) Q E s := by
  have e1 := h1.1
  have e2 := h2.1
  refine eq_listAt (e := fun _ => true) hl hb (by simp [e1, e2]) hu2 (fun j i1 i2 => ?_) ?_
  · have j1 : j < vs.length := by simpa using i1
    have j2 : j < ws.length := by simpa using i2
    have hn := List.getElem?_eq_getElem (l := ns) (i := j) (e1 ▸ j1)
    refine byNo fun hno => ?_
    obtain ⟨a, t, u, k, g1, g2⟩ := h1.2 j _ hn
    obtain ⟨a', t', u', k', g1', g2'⟩ := h2.2 j _ hn
    refine hno ?_
    clear hno
    rw [List.getElem?_eq_getElem j1] at g1
    rw [List.getElem?_eq_getElem j2] at g1'
    rw [List.getElem_toArray, List.getElem_toArray, Option.some.inj g1, Option.some.inj g1']
    have := keq_at (A := A) (Reads.tuple g2 rfl rfl (ReadsAll.cons (.str _ _) (.cons (.int _ _) .nil))) (Reads.tuple g2' rfl rfl (ReadsAll.cons (.str _ _) (.cons (.int _ _) .nil))) (shaped_pair _) (shaped_pair _) hu
    rwa [eqv_pair] at this
  · have : ((List.range vs.toArray.size).all fun _ => true) = true := by simp
    rw [this]; exact h
noncomputable def dueN (P O : TF) (q : Addr × TF) : Int := if q.2.num = P.num then O.num else q.2.num
theorem due_end {h₀ : Heap} {L I C D : Addr} {oI oC : Obj} {base : List (Addr × Obj)} {ks : List (Addr × TF)} {P O : TF} {q : Addr × TF} {i tk : Nat} {z : Int} {t : Tok} {ys : List Value} {m : FMap} {s : Shared} {h' : Heap} {S : List (Addr × Obj) → Prop} (hS : S base)
    (F : Fr h₀ L h' m) (N : News h₀ L h' ((I, oI) :: (C, oC) :: (D, lst ys) :: base)) (off : Off3 I C D base) (hi : IntsAre ys ((ks.take i).map (dueN P O))) (htk : ks.take (i + 1) = ks.take i ++ [q]) (hz : z = dueN P O q) :
    CompEnd h₀ L m s I oI C oC D (lst ys) S (fun y news' => news' = base ∧ IntsAre (ys ++ [y]) ((ks.take (i + 1)).map (dueN P O))) (Value.int z t) { s with heap := h', toks := tk } :=
  CompEnd.intro F N base (fun p hp => hp) off hS ⟨rfl, by rw [htk, List.map_append, hz]; exact intsAre_append hi (.cons _ _ .nil)⟩
theorem profile_use {w : World} {mean : ExcName → Option Value} {mg mb : PySem.Str → Option Value} {dp un : Nat} {gd : Option (List Code)} {env : Env} {outer : List Env} {A₀ : Around} {base h₀ : Heap} {L : Addr} {m : PySem.Str → Option Value} {s : Shared} {Q : Value → Shared → Prop} {E : Value → Shared → Prop} {news : List (Addr × Obj)} {pf rl p kind : Addr} {vs : List Value} {n1 n2 : Nat} {ks : List (Addr × TF)} {P : TF} {rq : Addr × TF}
    (B : Below A₀ base outer h₀) (F : Fr h₀ L s.heap m) (X : (hd.heap_1 w.params).In h₀) (N : News h₀ L s.heap news) (T0 : TP mean mg mb h₀) (hf : env.frame = some L) (hk : env.scope.kind = .function) (hd : dp + 50 < recursionLimit) (hu : un + 4000 < cLine)
    (hn : ∀ q ∈ ks, q.2.numbered) (hP0 : P.numbered) (hr0 : rq.2.numbered) (hz : ks.length ≤ 100) (h1 : (pf, tupOb [.ref rl, .ref rq.1] n1) ∈ news) (h2 : (rl, listOf vs.toArray n2) ∈ news) (h3 : ProfR w (At s.heap) vs ks) (h4 : TyH w (At s.heap) p P) (h5 : TyH w (At s.heap) rq.1 rq.2)
    (ret : ∀ t Fl n n5 fs tl9 h' tk', Fr h₀ L h' m → News h₀ L h' ((t, tupOb [.ref Fl, .ref (pickK P kind rq)] n5) :: (Fl, listOf fs.toArray n) :: (tl9 ++ news)) → PickR (InL tl9) P kind ks fs → Q (.ref t) { s with heap := h', toks := tk' }) :
    wpAny (model PySem.Challenge.rw_pb0010_01.row.prog w) (topA dp un gd env outer) (call (.ref 185) [.ref pf, .ref p, .ref kind]) Q E s := by
  refine Spec.use0 (profile_spec w mean mg mb pf rl p kind vs n1 n2 ks P rq hn hP0 hr0 hz) B F X N T0 hf hk hd hu ⟨(N _ h1).1, (N _ h2).1, h3, h4, h5⟩ ?_
  rintro r new h' tk' F' N' hne - ⟨t, Fl, n, n5, fs, tl9, rfl, rfl, hpk⟩
  exact ret t Fl n n5 fs tl9 h' tk' F' N' hpk
section

set_option maxHeartbeats 8000000
theorem law_prof2 (w : World) (mean mg mb) (dp un : Nat) (gd : Option (List Code)) (f : Addr) (cd : Value) (A₀ : Around) (h₀ : Heap) (L tyl KL : Addr) (o4 o5 o6 : Obj) (mR : FMap) (n3 a : Nat) (ta : Tok) (ts ks : List (Addr × TF)) (P O q0 : Addr × TF) (tl : List (Addr × Obj)) (h : Heap) (tk : Nat) (s0 : Shared) (Q : Flow → Shared → Prop) (E' : Value → Shared → Prop)
    (B : Below A₀ h₀ [] h₀) (X : (hd.heap_1 w.params).In h₀) (Tp : TP mean mg mb h₀) (hd : dp + 200 < recursionLimit) (hu : un + 9800 < cLine) (hal : a < ts.length) (hts : ts.length ≤ 10) (hO : ts[a]? = some O) (hks : ∀ q ∈ ks, TyH w (InL tl) q.1 q.2 ∧ q.2.numbered) (hP : TyH w (InL tl) P.1 P.2 ∧ P.2.numbered) (hOt : TyH w (InL tl) O.1 O.2 ∧ O.2.numbered) (hkm : ks.length ≤ 4) (hq0 : ks[0]? = some q0)
    (F : Fr h₀ L h (fun z => if z = Str.ofString "kinds" then some (Value.ref KL) else mR z)) (N : News h₀ L h ((KL, lst (ks.map fun q => Value.ref q.1)) :: (tyl, listOf (ts.map fun p => Value.ref p.1).toArray n3) :: (L + 1 + 1 + 1 + 1 + 1 + 1, o6) :: (L + 1 + 1 + 1 + 1 + 1, o5) :: (L + 1 + 1 + 1 + 1, o4) :: tl))
    (k4 : o4.data = .cell (some (.ref tyl))) (k5 : o5.data = .cell (some (.int ((a : Nat) : Int) ta))) (k6 : o6.data = .cell (some (.ref P.1)))
    (K : ∀ h' tk' m', Fr h₀ L h' m' → Q (.ret (.bool true)) { s0 with heap := h', toks := tk' }) :
    wpAny (model PySem.Challenge.rw_pb0010_01.row.prog w) (topA dp un gd (lawEnv L f cd) []) (execs ((funBody lawDef).drop 12) (lawEnv L f cd)) Q E' { s0 with heap := h, toks := tk } := by
  dsimp only [lawEnv, lawDef, funScope, funBody, PySem.Challenge.pw_pb0010_01, List.getLast?, List.getLast, Option.getD, List.drop]
  have hk0 : (ks.map fun q : Addr × TF => Value.ref q.1)[((0 : Int)).toNat]? = some (.ref q0.1) := by simp [hq0]
  have hOO : (List.map (fun p => Value.ref p.1) ts)[((a : Nat) : Int).toNat]? = some (.ref O.1) := by simp [hO]
  focus
    iterate 8 ((try dsimp only); walk1)
  all_goals (try dsimp only)
  rename Fr _ _ _ _ => F1
  rename News _ _ _ _ => N1
  refine ListComp_U F1 rfl (by decide) rfl (by decide) (by decide) ?_
  focus
    ((try dsimp only); walk1)
  all_goals (try dsimp only)
  refine CompSrc.ledger rfl F1 N1 (.head _) (by rw [List.size_toArray, List.length_map, sizeLine_eq]; omega) fun g => ?_
  refine compRest_inv (n := _) (ProfJ w ((KL, lst (ks.map fun q => Value.ref q.1)) :: (tyl, listOf (ts.map fun p => Value.ref p.1).toArray n3) :: (L + 1 + 1 + 1 + 1 + 1 + 1, o6) :: (L + 1 + 1 + 1 + 1 + 1, o5) :: (L + 1 + 1 + 1 + 1, o4) :: []) tl ks) ?step ?fin _ 0 [] _ (Nat.zero_add _) ⟨tl, rfl, fun _ h => h, rfl, fun i q e => by simp at e⟩
  case step =>
    rintro i ys news v I oI C oC D m₂ h4 tk4 E2 hi ⟨tl', rfl, tsub, hpr⟩ hvi hCx hx F4 N4 off3 ne
    have N5 := N4
    dsimp only [List.cons_append, List.nil_append] at N4
    have hil : i < ks.length := by simpa using hi
    have hqi := List.getElem?_eq_getElem hil
    have hv : v = .ref ks[i].1 := by
      have : (ks.map fun q : Addr × TF => Value.ref q.1)[i]? = some v := by simpa using hvi
      rw [List.getElem?_map, hqi] at this
      exact (Option.some.inj this).symm
    subst hv
    have htk := take_snoc hqi
    focus
      iterate 7 ((try dsimp only); walk1)
    all_goals (try dsimp only)
    rename Fr _ _ _ _ => F6
    rename News _ _ _ _ => N6
    rename_i T6 hT6 lT6
    exact prof_end (base := (KL, lst (ks.map fun q => Value.ref q.1)) :: (tyl, listOf (ts.map fun p => Value.ref p.1).toArray n3) :: (L + 1 + 1 + 1 + 1 + 1 + 1, o6) :: (L + 1 + 1 + 1 + 1 + 1, o5) :: (L + 1 + 1 + 1 + 1, o4) :: []) (tl' := tl') (fun o => .inr ⟨_, .head _, rfl, _, rfl⟩) F6 N6 off3 ⟨lT6.1, lT6.2.1, lT6.2.2.1⟩ tsub hpr htk (hks _ (List.mem_of_getElem? hqi)).1
  case fin =>
    rintro ys news ⟨tl', rfl, tsub, hpr⟩ D h5 tk5 F5 N5 oD5
    rw [List.size_toArray, List.length_map, List.take_length] at hpr
    dsimp only [List.cons_append, List.nil_append] at N5
    focus
      iterate 4 ((try dsimp only); walk1)
      ((try dsimp only); refine item_at (by first | exact isListOf (News.get (by assumption) (by k_search 3)) | exact isListOf (News.get (by assumption) (by repeat (first | with_reducible assumption | refine List.mem_cons_of_mem _ ?_))) | exact Heap.IsList.at (by assumption) (fun o e => Fr.keep (by assumption) _ o e)) (by omega) (by omega) (by with_reducible assumption) ?_)
      iterate 8 ((try dsimp only); walk1)
      ((try dsimp only); refine item_at (by first | exact isListOf (News.get (by assumption) (by k_search 3)) | exact isListOf (News.get (by assumption) (by repeat (first | with_reducible assumption | refine List.mem_cons_of_mem _ ?_))) | exact Heap.IsList.at (by assumption) (fun o e => Fr.keep (by assumption) _ o e)) (by omega) (by omega) (by with_reducible assumption) ?_)
      iterate 2 ((try dsimp only); walk1)
    all_goals (try dsimp only)
    rename Fr _ _ _ _ => F6
    rename News _ _ _ _ => N6
    rename_i T6 hT6 lT6
    have up : ∀ a o, (a, o) ∈ tl' → hT6.get? a = some o := fun a o e => News.get N6 (by repeat (first | exact e | refine List.mem_cons_of_mem _ ?_))
    have hq0t := hks q0 (List.mem_of_getElem? hq0)
    refine profile_use B F6 X N6 Tp rfl rfl (by k_search 2) (by k_search 2) (P := P.2) (rq := q0) (ks := ks) (vs := ys) (rl := D) (n2 := ys.length) (n1 := 0) (fun q hq => (hks q hq).2) hP.2 hq0t.2 (by omega) (.head _) (.tail _ (.head _)) (hpr.mono up) (hP.1.mono fun a o e => up a o (tsub _ e)) (hq0t.1.mono fun a o e => up a o (tsub _ e)) ?_
    intro tR Fl nR n5 fs tl9 h7 tk7 F7 N7 hpk
    clear N6 up
    focus
      ((try dsimp only); refine unpackN_ (by assumption) (by assumption) (by exact ⟨_, News.get (by assumption) (.head _), rfl, _, rfl⟩) rfl rfl rfl ?_; (intro _ _ _))
      iterate 9 ((try dsimp only); walk1)
    all_goals (try dsimp only)
    rename Fr _ _ _ _ => F8
    rename News _ _ _ _ => N8
    have up3 : ∀ (a : Addr) (o : Obj), (a, o) ∈ tl → (a, o) ∈ tl9 ++ tl' := fun a o e => List.mem_append_right _ (tsub _ e)
    have hks3 : ∀ q ∈ ks, TyH w (InL (tl9 ++ tl')) q.1 q.2 ∧ q.2.numbered := fun q hq => ⟨(hks q hq).1.mono up3, (hks q hq).2⟩
    have hP3 := hP.1.mono up3
    have hO3 := hOt.1.mono up3
    have hpk3 : PickR (InL (tl9 ++ tl')) P.2 O.1 ks fs := hpk.mono fun a o e => List.mem_append_left _ e
    refine byNo fun hno => ?_
    obtain ⟨tP, hPn⟩ := TF.num_eq hP.2
    obtain ⟨tO, hOn⟩ := TF.num_eq hOt.2
    refine hno ?_
    clear hno
    have N9 : News h₀ L _ ((Fl, listOf fs.toArray nR) :: ((KL, lst (ks.map fun q => Value.ref q.1)) :: (tyl, listOf (ts.map fun p => Value.ref p.1).toArray n3) :: (L + 1 + 1 + 1 + 1 + 1 + 1, o6) :: (L + 1 + 1 + 1 + 1 + 1, o5) :: (L + 1 + 1 + 1 + 1, o4) :: (tl9 ++ tl'))) := fun p hp => N8 p (by
      simp only [List.mem_cons, List.mem_append] at hp ⊢
      rcases hp with h | h | h | h | h | h | h | h <;> simp [h])
    clear N8 hpk hpr tsub up3
    generalize tl9 ++ tl' = tl3 at N9 hks3 hP3 hO3 hpk3
    refine Assign_ListComp_U F8 rfl (by first | rfl | with_unfolding_all rfl) rfl (by decide) rfl (by decide) (by decide) rfl rfl ?_
    focus
      ((try dsimp only); walk1)
    all_goals (try dsimp only)
    refine CompSrc.ledger rfl F8 N9 (.tail _ (.head _)) (by rw [List.size_toArray, List.length_map, sizeLine_eq]; omega) fun g => ?_
    refine compRest_inv (n := _) (fun i ys news => news = (Fl, listOf fs.toArray nR) :: ((KL, lst (ks.map fun q => Value.ref q.1)) :: (tyl, listOf (ts.map fun p => Value.ref p.1).toArray n3) :: (L + 1 + 1 + 1 + 1 + 1 + 1, o6) :: (L + 1 + 1 + 1 + 1 + 1, o5) :: (L + 1 + 1 + 1 + 1, o4) :: tl3) ∧ IntsAre ys ((ks.take i).map (dueN P.2 O.2))) ?step2 ?fin2 _ 0 [] _ (Nat.zero_add _) ⟨rfl, .nil⟩
    case step2 =>
      rintro i ys2 news v I oI C oC D2 m₂ h9 tk9 E2 hi ⟨rfl, hyi⟩ hvi hCx hx FA NA off3 ne
      have NB := NA
      have hil : i < ks.length := by simpa using hi
      have hqi := List.getElem?_eq_getElem hil
      have hv : v = .ref ks[i].1 := by
        have : (ks.map fun q : Addr × TF => Value.ref q.1)[i]? = some v := by simpa using hvi
        rw [List.getElem?_map, hqi] at this
        exact (Option.some.inj this).symm
      subst hv
      have htk := take_snoc hqi
      refine byNo fun hno => ?_
      obtain ⟨hq1, hq2⟩ := hks3 _ (List.mem_of_getElem? hqi)
      refine hno ?_
      clear hno
      generalize ks[i] = q at hqi htk hq1 hq2 hx
      refine byNo fun hno => ?_
      obtain ⟨tq, hqn⟩ := TF.num_eq hq2
      refine hno ?_
      clear hno
      focus
        focus (iterate 4 ((try dsimp only); walk1))
        focus ((try dsimp only); refine tyE_number (by assumption) (by assumption) (ty_tail (by with_reducible assumption) (fun a o e => News.get (by assumption) (by repeat (first | exact e | refine List.Mem.tail _ ?_)))) (by with_reducible assumption) ?_)
        focus (iterate 2 ((try dsimp only); walk1))
        focus ((try dsimp only); refine tyE_number (by assumption) (by assumption) (ty_tail (by with_reducible assumption) (fun a o e => News.get (by assumption) (by repeat (first | exact e | refine List.Mem.tail _ ?_)))) (by with_reducible assumption) ?_)
        focus (iterate 7 ((try dsimp only); walk1))
        focus ((try dsimp only); refine item_at (by first | exact isListOf (News.get (by assumption) (by k_search 3)) | exact isListOf (News.get (by assumption) (by repeat (first | with_reducible assumption | refine List.mem_cons_of_mem _ ?_))) | exact Heap.IsList.at (by assumption) (fun o e => Fr.keep (by assumption) _ o e)) (by omega) (by omega) (by with_reducible assumption) ?_)
        focus ((try dsimp only); refine tyE_number (by assumption) (by assumption) (ty_tail (by with_reducible assumption) (fun a o e => News.get (by assumption) (by repeat (first | exact e | refine List.Mem.tail _ ?_)))) (by with_reducible assumption) ?_)
        rotate_left
        focus (iterate 2 ((try dsimp only); walk1))
        focus ((try dsimp only); refine tyE_number (by assumption) (by assumption) (ty_tail (by with_reducible assumption) (fun a o e => News.get (by assumption) (by repeat (first | exact e | refine List.Mem.tail _ ?_)))) (by with_reducible assumption) ?_)
        rotate_left
      all_goals (try dsimp only)
      · exact due_end (.inr ⟨_, .tail _ (.head _), rfl, _, rfl⟩) (by assumption) (by assumption) off3 hyi htk (if_pos (by assumption)).symm
      · exact due_end (.inr ⟨_, .tail _ (.head _), rfl, _, rfl⟩) (by assumption) (by assumption) off3 hyi htk (if_neg (by assumption)).symm
    case fin2 =>
      rintro ys2 news ⟨rfl, hyi⟩ D2 h9 tk9 F9 N10 oD9
      rw [List.size_toArray, List.length_map, List.take_length] at hyi
      focus
        ((try dsimp only); walk1)
      all_goals (try dsimp only)
      rename Fr _ _ _ _ => FB
      rename News _ _ _ _ => NB
      have hfl := hpk3.1
      refine PyProof.Rows.LCp.Assign_ListComp_P FB rfl (by first | rfl | with_unfolding_all rfl) rfl (by decide) rfl (by decide) (by decide) (by decide) (by decide) rfl rfl ?_
      focus
        ((try dsimp only); walk1)
      all_goals (try dsimp only)
      refine PyProof.Rows.LCp.SrcLP.ledger rfl FB NB (.tail _ (.head _)) (by rw [List.size_toArray, sizeLine_eq]; omega) fun g => ?_
      refine compRestP_inv (n := _) (PairJ ((D2, lst ys2) :: (Fl, listOf fs.toArray nR) :: ((KL, lst (ks.map fun q => Value.ref q.1)) :: (tyl, listOf (ts.map fun p => Value.ref p.1).toArray n3) :: (L + 1 + 1 + 1 + 1 + 1 + 1, o6) :: (L + 1 + 1 + 1 + 1 + 1, o5) :: (L + 1 + 1 + 1 + 1, o4) :: [])) tl3 (ks.map (dueN P.2 O.2))) ?step3 ?fin3 _ 0 [] _ (Nat.zero_add _) ⟨tl3, rfl, fun _ h => h, rfl, fun i q e => by simp at e⟩
      case step3 =>
        rintro i ys3 news v hi ⟨tl4, rfl, tsub4, hpr4⟩ hvi
        have hil : i < ks.length := by rw [← hfl]; simpa using hi
        have hqi := List.getElem?_eq_getElem hil
        refine byNo fun hno => ?_
        obtain ⟨ti, tt, nt, hv1, hv2⟩ := hpk3.2 i _ hqi
        refine hno ?_
        clear hno
        have hv : v = .ref ti := by
          have : fs[i]? = some v := by simpa using hvi
          rw [hv1] at this
          exact (Option.some.inj this).symm
        subst hv
        refine byNo fun hno => ?_
        obtain ⟨hq1, hq2⟩ := hks3 _ (List.mem_of_getElem? hqi)
        refine hno ?_
        clear hno
        generalize ks[i] = q at hqi hq1 hq2 hv2
        refine byNo fun hno => ?_
        obtain ⟨tq, hqn⟩ := TF.num_eq hq2
        refine hno ?_
        clear hno
        have hni : (ks.map (dueN P.2 O.2))[i]? = some (dueN P.2 O.2 q) := by rw [List.getElem?_map, hqi]; rfl
        refine ⟨ti, _, _, _, nt, rfl, .tail _ (.tail _ (List.mem_append_right _ (tsub4 _ hv2))), rfl, rfl, ?_⟩
        intro I oI C oC D3 m₂ h10 tk10 E3 hCx hx hx2 FC NC off3 ne
        have hq14 := hq1.mono fun a o e => tsub4 (a, o) e
        have hO4 := hO3.mono fun a o e => tsub4 (a, o) e
        have ND := NC
        dsimp only [List.cons_append, List.nil_append] at NC
        by_cases hc : q.2.num = P.2.num
        · have hdn : dueN P.2 O.2 q = O.2.num := if_pos hc
          have hpk : pickK P.2 O.1 q = O.1 := if_pos hc
          rw [hpk] at hx2
          focus
            iterate 6 ((try dsimp only); walk1)
            ((try dsimp only); refine tyE_number (by assumption) (by assumption) (ty_tail (by with_reducible assumption) (fun a o e => News.get (by assumption) (by repeat (first | exact e | refine List.Mem.tail _ ?_)))) (by with_reducible assumption) ?_)
            iterate 2 ((try dsimp only); walk1)
          all_goals (try dsimp only)
          rename Fr _ _ _ _ => FX
          rename News _ _ _ _ => NX
          rename_i T6 hT6 lT6
          exact pair_end (base := ((D2, lst ys2) :: (Fl, listOf fs.toArray nR) :: ((KL, lst (ks.map fun q => Value.ref q.1)) :: (tyl, listOf (ts.map fun p => Value.ref p.1).toArray n3) :: (L + 1 + 1 + 1 + 1 + 1 + 1, o6) :: (L + 1 + 1 + 1 + 1 + 1, o5) :: (L + 1 + 1 + 1 + 1, o4) :: []))) (tl' := tl4) (fun o => .inr ⟨_, .tail _ (.head _), rfl, _, rfl⟩) FX NX off3 ⟨lT6.1, lT6.2.1, lT6.2.2.1⟩ tsub4 hpr4 hni hdn.symm
        · have hdn : dueN P.2 O.2 q = q.2.num := if_neg hc
          have hpk : pickK P.2 O.1 q = q.1 := if_neg hc
          rw [hpk] at hx2
          focus
            iterate 6 ((try dsimp only); walk1)
            ((try dsimp only); refine tyE_number (by assumption) (by assumption) (ty_tail (by with_reducible assumption) (fun a o e => News.get (by assumption) (by repeat (first | exact e | refine List.Mem.tail _ ?_)))) (by with_reducible assumption) ?_)
            iterate 2 ((try dsimp only); walk1)
          all_goals (try dsimp only)
          rename Fr _ _ _ _ => FX
          rename News _ _ _ _ => NX
          rename_i T6 hT6 lT6
          exact pair_end (base := ((D2, lst ys2) :: (Fl, listOf fs.toArray nR) :: ((KL, lst (ks.map fun q => Value.ref q.1)) :: (tyl, listOf (ts.map fun p => Value.ref p.1).toArray n3) :: (L + 1 + 1 + 1 + 1 + 1 + 1, o6) :: (L + 1 + 1 + 1 + 1 + 1, o5) :: (L + 1 + 1 + 1 + 1, o4) :: []))) (tl' := tl4) (fun o => .inr ⟨_, .tail _ (.head _), rfl, _, rfl⟩) FX NX off3 ⟨lT6.1, lT6.2.1, lT6.2.2.1⟩ tsub4 hpr4 hni hdn.symm
      case fin3 =>
        rintro ys3 news ⟨tl4, rfl, tsub4, hpr4⟩ D3 h10 tk10 FC NC oD10
        dsimp only [List.cons_append, List.nil_append] at NC
        focus
          iterate 5 ((try dsimp only); walk1)
        all_goals (try dsimp only)
        rename Fr _ _ _ _ => FE
        rename News _ _ _ _ => NE
        have hyl2 := hyi.length
        rw [List.length_map] at hyl2
        refine ListComp_U FE rfl (by decide) rfl (by decide) (by decide) ?_
        focus
          ((try dsimp only); walk1)
        all_goals (try dsimp only)
        refine CompSrc.ledger rfl FE NE (.tail _ (.head _)) (by rw [List.size_toArray, sizeLine_eq]; omega) fun g => ?_
        refine compRest_inv (n := _) (PairJ ((D3, lst ys3) :: (D2, lst ys2) :: (Fl, listOf fs.toArray nR) :: ((KL, lst (ks.map fun q => Value.ref q.1)) :: (tyl, listOf (ts.map fun p => Value.ref p.1).toArray n3) :: (L + 1 + 1 + 1 + 1 + 1 + 1, o6) :: (L + 1 + 1 + 1 + 1 + 1, o5) :: (L + 1 + 1 + 1 + 1, o4) :: [])) tl4 (ks.map (dueN P.2 O.2))) ?step4 ?fin4 _ 0 [] _ (Nat.zero_add _) ⟨tl4, rfl, fun _ h => h, rfl, fun i q e => by simp at e⟩
        case step4 =>
          rintro i ys4 news v I oI C oC D4 m₂ h11 tk11 E4 hi ⟨tl5, rfl, tsub5, hpr5⟩ hvi hCx hx FF NF off3 ne
          have NG := NF
          dsimp only [List.cons_append, List.nil_append] at NF
          refine byNo fun hno => ?_
          obtain ⟨nz, tz, hnz, rfl⟩ := ints_at hyi i v (by simpa using hvi)
          refine hno ?_
          clear hno
          focus
            iterate 7 ((try dsimp only); walk1)
          all_goals (try dsimp only)
          rename Fr _ _ _ _ => FX
          rename News _ _ _ _ => NX
          rename_i T6 hT6 lT6
          exact pair_end (base := ((D3, lst ys3) :: (D2, lst ys2) :: (Fl, listOf fs.toArray nR) :: ((KL, lst (ks.map fun q => Value.ref q.1)) :: (tyl, listOf (ts.map fun p => Value.ref p.1).toArray n3) :: (L + 1 + 1 + 1 + 1 + 1 + 1, o6) :: (L + 1 + 1 + 1 + 1 + 1, o5) :: (L + 1 + 1 + 1 + 1, o4) :: []))) (tl' := tl5) (fun o => .inr ⟨_, .tail _ (.head _), rfl, _, rfl⟩) FX NX off3 ⟨lT6.1, lT6.2.1, lT6.2.2.1⟩ tsub5 hpr5 hnz rfl
        case fin4 =>
          rintro ys4 news ⟨tl5, rfl, tsub5, hpr5⟩ D4 h11 tk11 FF NF oD11
          dsimp only [List.cons_append, List.nil_append] at NF
          focus
            skip
          all_goals (try dsimp only)
          rename News _ _ _ _ => NH
          rename Fr _ _ _ _ => FH
          have hl3 : ks.length = ys2.length := hyl2.symm
          rw [List.size_toArray] at hpr4 hpr5
          have hp3 : PairsR (InL tl4) ys3 (ks.map (dueN P.2 O.2)) := by rwa [List.take_of_length_le (by rw [List.length_map]; omega)] at hpr4
          have hp4 : PairsR (InL tl5) ys4 (ks.map (dueN P.2 O.2)) := by rwa [List.take_of_length_le (by rw [List.length_map]; omega)] at hpr5
          have up5 : ∀ (a : Addr) (o : Obj), (a, o) ∈ tl5 → h11.get? a = some o := fun a o e => News.get NH (by repeat (first | exact e | refine List.mem_cons_of_mem _ ?_))
          refine pairs_eq (isListOf (News.get NH (.tail _ (.head _)))) (isListOf (News.get NH (.head _))) (hp3.mono fun a o e => up5 a o (tsub5 _ e)) (hp4.mono fun a o e => up5 a o e) (by k_search 2) (by k_search 2) ?_
          clear up5
          have hnz : (ks.map (dueN P.2 O.2))[0]? = some (dueN P.2 O.2 q0) := by rw [List.getElem?_map, hq0]; rfl
          refine byNo fun hno => ?_
          obtain ⟨hq01, hq02⟩ := hks3 q0 (List.mem_of_getElem? hq0)
          obtain ⟨tq, hqn⟩ := TF.num_eq hq02
          refine hno ?_
          clear hno
          have hk0 : 0 < ys2.length := by rw [← hl3]; exact lt_of_get hq0
          refine byNo fun hno => ?_
          obtain ⟨nz, tz, hnz2, hv0⟩ := ints_at hyi 0 _ (List.getElem?_eq_getElem hk0)
          refine hno ?_
          clear hno
          rw [hnz] at hnz2
          obtain rfl := Option.some.inj hnz2
          have hd0 : ys2[((0 : Int)).toNat]? = some (.int (dueN P.2 O.2 q0) tz) := (List.getElem?_eq_getElem hk0).trans (congrArg some hv0)
          have hq05 := hq01.mono fun a o e => tsub5 _ (tsub4 (a, o) e)
          have hO5 := hO3.mono fun a o e => tsub5 _ (tsub4 (a, o) e)
          by_cases hc : q0.2.num = P.2.num
          · have hdn : dueN P.2 O.2 q0 = O.2.num := if_pos hc
            have hpk : pickK P.2 O.1 q0 = O.1 := if_pos hc
            rw [hdn] at hd0
            rw [hpk] at FH
            focus
              iterate 6 ((try dsimp only); walk1)
              ((try dsimp only); refine tyE_number (by assumption) (by assumption) (ty_tail (by with_reducible assumption) (fun a o e => News.get (by assumption) (by repeat (first | exact e | refine List.Mem.tail _ ?_)))) (by with_reducible assumption) ?_)
              iterate 3 ((try dsimp only); walk1)
              ((try dsimp only); refine item_at (by first | exact isListOf (News.get (by assumption) (by k_search 3)) | exact isListOf (News.get (by assumption) (by repeat (first | with_reducible assumption | refine List.mem_cons_of_mem _ ?_))) | exact Heap.IsList.at (by assumption) (fun o e => Fr.keep (by assumption) _ o e)) (by omega) (by omega) (by with_reducible assumption) ?_)
              ((try dsimp only); walk1)
            all_goals (try dsimp only)
            all_goals (rw [beq_self_eq_true]; exact K _ _ _ (by with_reducible assumption))
          · have hdn : dueN P.2 O.2 q0 = q0.2.num := if_neg hc
            have hpk : pickK P.2 O.1 q0 = q0.1 := if_neg hc
            rw [hdn] at hd0
            rw [hpk] at FH
            focus
              iterate 6 ((try dsimp only); walk1)
              ((try dsimp only); refine tyE_number (by assumption) (by assumption) (ty_tail (by with_reducible assumption) (fun a o e => News.get (by assumption) (by repeat (first | exact e | refine List.Mem.tail _ ?_)))) (by with_reducible assumption) ?_)
              iterate 3 ((try dsimp only); walk1)
              ((try dsimp only); refine item_at (by first | exact isListOf (News.get (by assumption) (by k_search 3)) | exact isListOf (News.get (by assumption) (by repeat (first | with_reducible assumption | refine List.mem_cons_of_mem _ ?_))) | exact Heap.IsList.at (by assumption) (fun o e => Fr.keep (by assumption) _ o e)) (by omega) (by omega) (by with_reducible assumption) ?_)
              ((try dsimp only); walk1)
            all_goals (try dsimp only)
            all_goals (rw [beq_self_eq_true]; exact K _ _ _ (by with_reducible assumption))
end
set_option maxHeartbeats 1000000

noncomputable def KindJ (w : World) (L bag bk tyl scr : Addr) (uE : Addr × Obj) (bo to o1 o2 o3 o4 o5 o6 : Obj) (tl : List (Addr × Obj)) (lim : Int) (P W O : Addr × TF) (i : Nat) (ys : List Value) (news : List (Addr × Obj)) : Prop :=
  ∃ (ob' : Obj) (ks : List (Addr × TF)), news = (bag, ob') :: uE :: (lawPre L bk tyl bo to o1 o2 o3 o4 o5 o6 ++ tl) ∧ BagO w scr (lim + i) ob' ∧ ys = ks.map (fun q : Addr × TF => Value.ref q.1) ∧ ks.length = i ∧ ∀ q ∈ ks, q = P ∨ q = W ∨ q = O
theorem kind_end {w : World} {h₀ : Heap} {L bag bk tyl scr I C D T : Addr} {uE : Addr × Obj} {oI oC oT bo to o1 o2 o3 o4 o5 o6 ob' : Obj} {tl : List (Addr × Obj)} {lim : Int} {P W O q : Addr × TF} {i : Nat} {ks : List (Addr × TF)} {m : FMap} {s : Shared} {h' : Heap} {tk : Nat}
    (F : Fr h₀ L h' m) (N : News h₀ L h' ((T, oT) :: (I, oI) :: (C, oC) :: (D, lst (ks.map fun q => Value.ref q.1)) :: (bag, ob') :: uE :: (lawPre L bk tyl bo to o1 o2 o3 o4 o5 o6 ++ tl))) (hb : BagO w scr (lim + i + 1) ob') (hkl : ks.length = i) (hks : ∀ q ∈ ks, q = P ∨ q = W ∨ q = O) (hq : q = P ∨ q = W ∨ q = O)
    (off : Off3 I C D ((bag, ob') :: uE :: (lawPre L bk tyl bo to o1 o2 o3 o4 o5 o6 ++ tl))) :
    CompEnd h₀ L m s I oI C oC D (lst (ks.map fun q => Value.ref q.1)) (fun _ => True) (fun y news' => KindJ w L bag bk tyl scr uE bo to o1 o2 o3 o4 o5 o6 tl lim P W O (i + 1) (ks.map (fun q => Value.ref q.1) ++ [y]) news') (Value.ref q.1) { s with heap := h', toks := tk } :=
  CompEnd.intro F N _ (fun p hp => .tail _ hp) off trivial ⟨ob', ks ++ [q], rfl, hb.more (by omega), by simp, by rw [List.length_append, hkl]; rfl, fun x hx => by
    rcases List.mem_append.mp hx with hx | hx
    · exact hks x hx
    · rw [List.mem_singleton.mp hx]; exact hq⟩
section

set_option maxHeartbeats 8000000
theorem law_profile (w : World) (mean mg mb) (dp un : Nat) (gd : Option (List Code)) (f : Addr) (cd : Value) (A₀ : Around) (h₀ : Heap) (L bag used bk tyl scr wh fx : Addr) (o1 o2 o3 o4 o5 o6 ob : Obj) (mR : FMap) (dxs vxs : List PySem.Str) (lim : Int) (n1 n2 n3 : Nat) (us bs : List Value) (ts : List (Addr × TF)) (es : List BE) (tl : List (Addr × Obj)) (h : Heap) (tk : Nat) (s0 : Shared) (Q : Flow → Shared → Prop) (E' : Value → Shared → Prop)
    (B : Below A₀ h₀ [] h₀) (X : (hd.heap_1 w.params).In h₀) (Tp : TP mean mg mb h₀) (hd : dp + 200 < recursionLimit) (hu : un + 9800 < cLine) (hlim : lim ≤ 300) (hok : LawOK w tl scr wh fx bs ts es dxs vxs) (hIo : LawOff L bag used bk tyl tl) (hb : BagO w scr lim ob) (hep : 0 < es.length)
    (F : Fr h₀ L h (lawMap bk fx mR)) (N : News h₀ L h ((bag, ob) :: (used, listOf us.toArray n1) :: ((lawPre L bk tyl (listOf bs.toArray n2) (listOf (ts.map fun p => Value.ref p.1).toArray n3) o1 o2 o3 o4 o5 o6) ++ tl)))
    (k1 : o1.data = .cell (some (.ref bag))) (k2 : o2.data = .cell (some (.ref wh))) (k3 : o3.data = .cell (some (.ref used))) (k4 : o4.data = .cell (some (.ref tyl))) (k5 : ∃ c, o5.data = .cell c) (k6 : ∃ c, o6.data = .cell c) (e0_1 : @Ne Nat (bag) (used)) (e0_2 : @Ne Nat (bag) (bk)) (e0_3 : @Ne Nat (bag) (tyl)) (e0_4 : @Ne Nat (bag) (L + 1 + 1 + 1 + 1 + 1 + 1)) (e0_5 : @Ne Nat (bag) (L + 1 + 1 + 1 + 1 + 1)) (e0_6 : @Ne Nat (bag) (L + 1 + 1 + 1 + 1)) (e0_7 : @Ne Nat (bag) (L + 1 + 1 + 1)) (e0_8 : @Ne Nat (bag) (L + 1 + 1)) (e0_9 : @Ne Nat (bag) (L + 1)) (e1_2 : @Ne Nat (used) (bk)) (e1_3 : @Ne Nat (used) (tyl)) (e1_4 : @Ne Nat (used) (L + 1 + 1 + 1 + 1 + 1 + 1)) (e1_5 : @Ne Nat (used) (L + 1 + 1 + 1 + 1 + 1)) (e1_6 : @Ne Nat (used) (L + 1 + 1 + 1 + 1)) (e1_7 : @Ne Nat (used) (L + 1 + 1 + 1)) (e1_8 : @Ne Nat (used) (L + 1 + 1)) (e1_9 : @Ne Nat (used) (L + 1)) (e2_3 : @Ne Nat (bk) (tyl)) (e2_4 : @Ne Nat (bk) (L + 1 + 1 + 1 + 1 + 1 + 1)) (e2_5 : @Ne Nat (bk) (L + 1 + 1 + 1 + 1 + 1)) (e2_6 : @Ne Nat (bk) (L + 1 + 1 + 1 + 1)) (e2_7 : @Ne Nat (bk) (L + 1 + 1 + 1)) (e2_8 : @Ne Nat (bk) (L + 1 + 1)) (e2_9 : @Ne Nat (bk) (L + 1)) (e3_4 : @Ne Nat (tyl) (L + 1 + 1 + 1 + 1 + 1 + 1)) (e3_5 : @Ne Nat (tyl) (L + 1 + 1 + 1 + 1 + 1)) (e3_6 : @Ne Nat (tyl) (L + 1 + 1 + 1 + 1)) (e3_7 : @Ne Nat (tyl) (L + 1 + 1 + 1)) (e3_8 : @Ne Nat (tyl) (L + 1 + 1)) (e3_9 : @Ne Nat (tyl) (L + 1))
    (K : ∀ h' tk' m', Fr h₀ L h' m' → Q (.ret (.bool true)) { s0 with heap := h', toks := tk' }) :
    wpAny (model PySem.Challenge.rw_pb0010_01.row.prog w) (topA dp un gd (lawEnv L f cd) []) (execs ((funBody lawDef).drop 9) (lawEnv L f cd)) Q E' { s0 with heap := h, toks := tk } := by
  dsimp only [lawEnv, lawDef, funScope, funBody, PySem.Challenge.pw_pb0010_01, List.getLast?, List.getLast, Option.getD, List.drop]
  dsimp only [List.cons_append, List.nil_append] at N
  refine byNo fun hno => ?_
  obtain ⟨c5, k5⟩ := k5
  obtain ⟨c6, k6⟩ := k6
  refine hno ?_
  clear hno
  have tb := hIo bag (by simp)
  have tone := hIo (L + 1 + 1 + 1 + 1 + 1) (by simp)
  have tpar := hIo (L + 1 + 1 + 1 + 1 + 1 + 1) (by simp)
  have hsc := hok.scr
  have hnb : @Ne Nat scr bag := by
    refine byNo fun hno => ?_
    obtain ⟨_, _, _, e, _⟩ := hsc
    refine hno ?_
    clear hno
    exact off1_mem tb _ e
  have hT := hok.tys
  have hents := hok.ents
  have hsm := hT.small
  have hlm : (List.map (fun p => Value.ref p.1) ts).length = es.length := by rw [List.length_map, hT.len]
  focus
    (iterate 14 ((try dsimp only); walk1))
    ((try dsimp only); refine len_L (by first | exact isListOf (News.get (by assumption) (by k_search 3)) | exact isListOf (News.get (by assumption) (by repeat (first | with_reducible assumption | refine List.mem_cons_of_mem _ ?_))) | exact Heap.IsList.at (by assumption) (fun o e => Fr.keep (by assumption) _ o e)) (by k_search 4) ?_; (intro _ _))
    (iterate 2 ((try dsimp only); walk1))
    ((try dsimp only); refine' roll_use ?B3 ?F3 ?X3 ?N3 ?T3 rfl rfl ?d3 ?u3 ?U3 ?b3 ?l3 ?S3 ?n3 ?s03 ?s13 ?_; (case B3 => assumption); (case F3 => assumption); (case X3 => assumption); (case N3 => assumption); (case T3 => assumption); (case d3 => k_search 2); (case u3 => k_search 2); (case U3 => k_updF); (case b3 => assumption); (case l3 => omega); (case S3 => exact scr_tail (by with_reducible assumption) (fun a o e => News.get (by assumption) (by repeat (first | exact e | refine List.Mem.tail _ ?_)))); (case n3 => with_reducible assumption); (case s03 => omega); (case s13 => omega); (intro _ _ _ _ _ _ _ _ N'; (try dsimp only [List.cons_append, List.nil_append] at N'); revert N'; intro _))
    (iterate 15 ((try dsimp only); walk1))
  all_goals (try dsimp only)
  rename_i t1 tkA va ta ob1 hA tkB hva hb1 hB o5b F1 N1 d5b
  refine byNo fun hno => ?_
  obtain ⟨a, rfl⟩ : ∃ a : Nat, va = (a : Int) := ⟨va.toNat, (Int.toNat_of_nonneg hva.1).symm⟩
  refine hno ?_
  clear hno
  rw [hlm] at hva
  have hal : a < es.length := by omega
  refine byNo fun hno => ?_
  obtain ⟨qO, hqO⟩ := hT.get hal
  refine hno ?_
  clear hno
  have heO : es[a]? = some es[a] := List.getElem?_eq_getElem hal
  generalize es[a] = e at heO
  refine byNo fun hno => ?_
  obtain ⟨bv, hbv, d, od, oA, tke, extra, ws5, n5, rfl, hd1, hd2, hd3, hd4⟩ := hents.2 a e heO
  refine hno ?_
  clear hno
  have hbb : bs[((a : Nat) : Int).toNat]? = some (.ref d) := by simpa using hbv
  have hd1' : (d, od) ∈ tl := hd1
  obtain ⟨pT, bN, hbN, hpT⟩ : ∃ (pT : Addr × TF) (bN : Nat), (if e.par > 0 then e.par else (0 : Int)) = (bN : Int) ∧ ts[bN]? = some pT := by
    rcases hT.parent a qO e hqO heO with ⟨h1, _⟩ | ⟨k, p, h1, h2, _⟩
    · obtain ⟨q0, hq0⟩ := hT.get hep
      exact ⟨q0, 0, by rw [h1]; rfl, hq0⟩
    · refine ⟨p, k, ?_, h2⟩
      rw [h1]; split <;> omega
  have hpp : (List.map (fun p => Value.ref p.1) ts)[(if e.par > 0 then e.par else (0 : Int)).toNat]? = some (.ref pT.1) := by rw [hbN]; simp [hpT]
  have hOO : (List.map (fun p => Value.ref p.1) ts)[((a : Nat) : Int).toNat]? = some (.ref qO.1) := by simp [hqO]
  have hbl := lt_of_get hpT
  have htl := hT.len
  focus
    ((try dsimp only); refine item_at (by first | exact isListOf (News.get (by assumption) (by k_search 3)) | exact isListOf (News.get (by assumption) (by repeat (first | with_reducible assumption | refine List.mem_cons_of_mem _ ?_))) | exact Heap.IsList.at (by assumption) (fun o e => Fr.keep (by assumption) _ o e)) (by omega) (by omega) (by with_reducible assumption) ?_)
    ((try dsimp only); walk1)
    ((try dsimp only); refine sub_dict (Heap.dictOf_iff.mpr ⟨_, News.get (by assumption) (by repeat (first | with_reducible assumption | refine List.mem_cons_of_mem _ ?_)), (by assumption)⟩) ent_parent ?_; (intro _))
    (iterate 2 ((try dsimp only); walk1))
    ((try dsimp only); refine item_at (by first | exact isListOf (News.get (by assumption) (by k_search 3)) | exact isListOf (News.get (by assumption) (by repeat (first | with_reducible assumption | refine List.mem_cons_of_mem _ ?_))) | exact Heap.IsList.at (by assumption) (fun o e => Fr.keep (by assumption) _ o e)) (by omega) (by omega) (by with_reducible assumption) ?_)
    (iterate 2 ((try dsimp only); walk1))
  all_goals (try dsimp only)
  rename Fr _ _ _ _ => F2
  rename News _ _ _ _ => N2
  rename_i hC tkC hD o6b d6b
  refine byNo fun hno => ?_
  obtain ⟨W, tW, hW, hWn⟩ := hok.whole
  refine hno ?_
  clear hno
  refine Assign_ListComp_U F2 rfl (by first | rfl | with_unfolding_all rfl) rfl (by decide) rfl (by decide) (by decide) rfl rfl ?_
  focus
    (iterate 15 ((try dsimp only); walk1))
    ((try dsimp only); refine' roll_use ?B2 ?F2 ?X2 ?N2 ?T2 rfl rfl ?d2 ?u2 ?U2 ?b2 ?l2 ?S2 ?n2 ?s02 ?s12 ?_; (case B2 => assumption); (case F2 => assumption); (case X2 => assumption); (case N2 => assumption); (case T2 => assumption); (case d2 => k_search 2); (case u2 => k_search 2); (case U2 => k_updF); (case b2 => assumption); (case l2 => omega); (case S2 => exact scr_tail (by with_reducible assumption) (fun a o e => News.get (by assumption) (by repeat (first | exact e | refine List.Mem.tail _ ?_)))); (case n2 => with_reducible assumption); (case s02 => omega); (case s12 => omega); (intro _ _ _ _ _ _ _ _ N'; (try dsimp only [List.cons_append, List.nil_append] at N'); revert N'; intro _))
    (iterate 2 ((try dsimp only); walk1))
  all_goals (try dsimp only)
  rename Fr _ _ _ _ => F3
  rename News _ _ _ _ => N3
  rename BagO _ _ _ _ => hb3
  rename_i vk tk3 ob3 hE tkE hvk
  refine comp_range (KindJ w L bag bk tyl scr (used, listOf us.toArray n1) (listOf bs.toArray n2) (listOf (ts.map fun p => Value.ref p.1).toArray n3) o1 o2 o3 o4 o5b o6b tl (lim + 1 + 1) pT (wh, W) qO) (by omega) (by omega) rfl F3 N3 ⟨ob3, [], rfl, by simpa using hb3, rfl, rfl, fun _ h => by cases h⟩ ?step ?fin
  case step =>
    (try clear F2 N2); (try clear F3 N3)
    rintro i ys news v I oI C oC D m₂ h4 tk4 E2 hi ⟨ob', ks, rfl, hb', rfl, hkl, hks⟩ hCx hx F4 N4 off3 ne
    have off4 := off3
    dsimp only [List.cons_append, List.nil_append] at N4
    refine byNo fun hno => ?_
    obtain ⟨⟨q1, q2, q3⟩, _⟩ := off3
    refine hno ?_
    clear hno
    have q1' : @Ne Nat bag I := q1
    have q2' : @Ne Nat bag C := q2
    have q3' : @Ne Nat bag D := q3
    focus
      (iterate 11 ((try dsimp only); walk1))
      ((try dsimp only); refine item_at (by first | exact isListOf (News.get (by assumption) (by k_search 3)) | exact isListOf (News.get (by assumption) (by repeat (first | with_reducible assumption | refine List.mem_cons_of_mem _ ?_))) | exact Heap.IsList.at (by assumption) (fun o e => Fr.keep (by assumption) _ o e)) (by omega) (by omega) (by with_reducible assumption) ?_)
      (iterate 12 ((try dsimp only); walk1))
      ((try dsimp only); refine' roll_use ?B1 ?F1 ?X1 ?N1 ?T1 rfl rfl ?d1 ?u1 ?U1 ?b1 ?l1 ?S1 ?n1 ?s01 ?s11 ?_; (case B1 => assumption); (case F1 => assumption); (case X1 => assumption); (case N1 => assumption); (case T1 => assumption); (case d1 => k_search 2); (case u1 => k_search 2); (case U1 => k_updF); (case b1 => assumption); (case l1 => omega); (case S1 => exact scr_tail (by with_reducible assumption) (fun a o e => News.get (by assumption) (by repeat (first | exact e | refine List.Mem.tail _ ?_)))); (case n1 => with_reducible assumption); (case s01 => omega); (case s11 => omega); (intro _ _ _ _ _ _ _ _ N'; (try dsimp only [List.cons_append, List.nil_append] at N'); revert N'; intro _))
      (k_unfold; (try dsimp only))
    all_goals (try dsimp only)
    rename News _ _ _ _ => N5
    rename Fr _ _ _ _ => F5
    rename BagO _ _ _ _ => hb5
    rename_i T9 hT9 lT9 v9 t9 ob9 h9 tk9 hv9
    have hv3 : v9 = 0 ∨ v9 = 1 ∨ v9 = 2 := by omega
    rcases hv3 with rfl | rfl | rfl
    · refine tup_item (k := 0) (News.get N5 (.head _)) rfl ?_ (by with_unfolding_all rfl)
      exact kind_end F5 N5 (hb5.more (by omega)) hkl hks (.inl rfl) off4
    · refine tup_item (k := 1) (News.get N5 (.head _)) rfl ?_ (by with_unfolding_all rfl)
      exact kind_end (q := (wh, W)) F5 N5 (hb5.more (by omega)) hkl hks (.inr (.inl rfl)) off4
    · refine tup_item (k := 2) (News.get N5 (.head _)) rfl ?_ (by with_unfolding_all rfl)
      exact kind_end F5 N5 (hb5.more (by omega)) hkl hks (.inr (.inr rfl)) off4
  case fin =>
    (try clear F2 N2); (try clear F3 N3)
    rintro ys news' KL h4 tk4 ⟨ob', ks, rfl, hb', rfl, hkl, hks⟩ F4 N4 oKL
    dsimp only [List.cons_append, List.nil_append] at N4
    have hkn : 0 < ks.length := by omega
    have hkm : ks.length ≤ 4 := by omega
    refine byNo fun hno => ?_
    obtain ⟨q0, hq0⟩ : ∃ q0, ks[0]? = some q0 := ⟨_, List.getElem?_eq_getElem hkn⟩
    refine hno ?_
    clear hno
    have tO := hT.ty a qO hqO
    have tP := hT.ty bN pT hpT
    have hks' : ∀ q ∈ ks, TyH w (InL tl) q.1 q.2 ∧ q.2.numbered := fun q hq => by
      rcases hks q hq with rfl | rfl | rfl
      · exact ⟨tP.1, tP.2.2⟩
      · exact ⟨hW, _, _, hWn⟩
      · exact ⟨tO.1, tO.2.2⟩
    refine law_prof2 w mean mg mb dp un gd f cd A₀ h₀ L tyl KL o4 o5b o6b (lawMap bk fx mR) n3 a ta ts ks pT qO q0 tl h4 tk4 s0 Q E' B X Tp hd hu (by omega) (by omega) hqO hks' ⟨tP.1, tP.2.2⟩ ⟨tO.1, tO.2.2⟩ hkm hq0 F4 (fun p hp => N4 p ?_) k4 d5b d6b K
    simp only [List.mem_cons] at hp ⊢
    rcases hp with h | h | h | h | h | h <;> simp [h]
end
set_option maxHeartbeats 1000000
section

theorem setAll_base {m : FMap} {xs : List PySem.Str} : m = setAll m (xs.map fun x => (x, m x)) := setAll_of xs fun _ _ => rfl
theorem law_after (w : World) (mean mg mb) (dp un : Nat) (gd : Option (List Code)) (f : Addr) (cd : Value) (A₀ : Around) (h₀ : Heap) (L bag used bk tyl scr wh fx : Addr) (o1 o2 o3 o4 o5 o6 ob : Obj) (mR : FMap) (dxs vxs : List PySem.Str) (n1 n2 n3 : Nat) (lim : Int) (hlim : lim ≤ 200) (us bs : List Value) (ts : List (Addr × TF)) (es : List BE) (tl : List (Addr × Obj)) (h : Heap) (tk : Nat) (s0 : Shared) (Q : Flow → Shared → Prop) (E' : Value → Shared → Prop)
    (B : Below A₀ h₀ [] h₀) (X : (hd.heap_1 w.params).In h₀) (Tp : TP mean mg mb h₀) (hd : dp + 200 < recursionLimit) (hu : un + 9800 < cLine) (hok : LawOK w tl scr wh fx bs ts es dxs vxs) (hIo : LawOff L bag used bk tyl tl) (hb : BagO w scr lim ob) (hep : 0 < es.length)
    (F : Fr h₀ L h (lawMap bk fx mR)) (N : News h₀ L h ((bag, ob) :: (used, listOf us.toArray n1) :: ((lawPre L bk tyl (listOf bs.toArray n2) (listOf (ts.map fun p => Value.ref p.1).toArray n3) o1 o2 o3 o4 o5 o6) ++ tl)))
    (k1 : o1.data = .cell (some (.ref bag))) (k2 : o2.data = .cell (some (.ref wh))) (k3 : o3.data = .cell (some (.ref used))) (k4 : o4.data = .cell (some (.ref tyl))) (k5 : ∃ c, o5.data = .cell c) (k6 : ∃ c, o6.data = .cell c) (e0_1 : @Ne Nat (bag) (used)) (e0_2 : @Ne Nat (bag) (bk)) (e0_3 : @Ne Nat (bag) (tyl)) (e0_4 : @Ne Nat (bag) (L + 1 + 1 + 1 + 1 + 1 + 1)) (e0_5 : @Ne Nat (bag) (L + 1 + 1 + 1 + 1 + 1)) (e0_6 : @Ne Nat (bag) (L + 1 + 1 + 1 + 1)) (e0_7 : @Ne Nat (bag) (L + 1 + 1 + 1)) (e0_8 : @Ne Nat (bag) (L + 1 + 1)) (e0_9 : @Ne Nat (bag) (L + 1)) (e1_2 : @Ne Nat (used) (bk)) (e1_3 : @Ne Nat (used) (tyl)) (e1_4 : @Ne Nat (used) (L + 1 + 1 + 1 + 1 + 1 + 1)) (e1_5 : @Ne Nat (used) (L + 1 + 1 + 1 + 1 + 1)) (e1_6 : @Ne Nat (used) (L + 1 + 1 + 1 + 1)) (e1_7 : @Ne Nat (used) (L + 1 + 1 + 1)) (e1_8 : @Ne Nat (used) (L + 1 + 1)) (e1_9 : @Ne Nat (used) (L + 1)) (e2_3 : @Ne Nat (bk) (tyl)) (e2_4 : @Ne Nat (bk) (L + 1 + 1 + 1 + 1 + 1 + 1)) (e2_5 : @Ne Nat (bk) (L + 1 + 1 + 1 + 1 + 1)) (e2_6 : @Ne Nat (bk) (L + 1 + 1 + 1 + 1)) (e2_7 : @Ne Nat (bk) (L + 1 + 1 + 1)) (e2_8 : @Ne Nat (bk) (L + 1 + 1)) (e2_9 : @Ne Nat (bk) (L + 1)) (e3_4 : @Ne Nat (tyl) (L + 1 + 1 + 1 + 1 + 1 + 1)) (e3_5 : @Ne Nat (tyl) (L + 1 + 1 + 1 + 1 + 1)) (e3_6 : @Ne Nat (tyl) (L + 1 + 1 + 1 + 1)) (e3_7 : @Ne Nat (tyl) (L + 1 + 1 + 1)) (e3_8 : @Ne Nat (tyl) (L + 1 + 1)) (e3_9 : @Ne Nat (tyl) (L + 1))
    (K : ∀ h' tk' m', Fr h₀ L h' m' → Q (.ret (.bool true)) { s0 with heap := h', toks := tk' }) :
    wpAny (model PySem.Challenge.rw_pb0010_01.row.prog w) (topA dp un gd (lawEnv L f cd) []) (execs ((funBody lawDef).drop 7) (lawEnv L f cd)) Q E' { s0 with heap := h, toks := tk } :=
  law_checks w mean mg mb dp un gd f cd A₀ h₀ L bag used bk tyl scr wh fx o1 o2 o3 o4 o5 o6 ob mR dxs vxs lim n1 n2 n3 us bs ts es tl h tk s0 Q E' B X Tp hd hu (by omega) hok hIo hb hep F N k1 k2 k3 k4 k5 e0_1 e0_2 e0_3 e0_4 e0_5 e0_6 e0_7 e0_8 e0_9 e1_2 e1_3 e1_4 e1_5 e1_6 e1_7 e1_8 e1_9 e2_3 e2_4 e2_5 e2_6 e2_7 e2_8 e2_9 e3_4 e3_5 e3_6 e3_7 e3_8 e3_9
    fun h' tk' o5' ob' mR' k5' hb' F' N' => law_profile w mean mg mb dp un gd f cd A₀ h₀ L bag used bk tyl scr wh fx o1 o2 o3 o4 o5' o6 ob' mR' dxs vxs (lim + 1) n1 n2 n3 us bs ts es tl h' tk' s0 Q E' B X Tp hd hu (by omega) hok hIo hb' hep F' N' k1 k2 k3 k4 k5' k6 e0_1 e0_2 e0_3 e0_4 e0_5 e0_6 e0_7 e0_8 e0_9 e1_2 e1_3 e1_4 e1_5 e1_6 e1_7 e1_8 e1_9 e2_3 e2_4 e2_5 e2_6 e2_7 e2_8 e2_9 e3_4 e3_5 e3_6 e3_7 e3_8 e3_9 K
set_option maxHeartbeats 8000000
theorem law_loop (w : World) (mean mg mb) (dp un : Nat) (gd : Option (List Code)) (f : Addr) (cd : Value) (A₀ : Around) (h₀ : Heap) (L bag used bk tyl scr wh fx : Addr) (o1 o2 o3 o4 o5 o6 ob : Obj) (mR : FMap) (dxs vxs xs : List PySem.Str) (n1 n2 n3 : Nat) (us bs : List Value) (ts : List (Addr × TF)) (es : List BE) (tl : List (Addr × Obj)) (h : Heap) (tk : Nat) (s0 : Shared) (Q : Flow → Shared → Prop) (E' : Value → Shared → Prop)
    (B : Below A₀ h₀ [] h₀) (X : (hd.heap_1 w.params).In h₀) (Tp : TP mean mg mb h₀) (hd : dp + 200 < recursionLimit) (hu : un + 9800 < cLine) (hok : LawOK w tl scr wh fx bs ts es dxs vxs) (hIo : LawOff L bag used bk tyl tl) (hb : BagO w scr 6 ob) (hus : StrsAre us xs) (hxl : xs.length ≤ 5) (hel : es.length ≤ 1) (hnum : ∀ (j : Nat) (q : Addr × TF), ts[j]? = some q → q.2.num < 60) (hep : 0 < es.length) (hup : ∀ (k : Nat) (ks : List Nat), UpR es (k : Int) ks → ks.length ≤ es.length)
    (F : Fr h₀ L h (lawMap bk fx mR)) (N : News h₀ L h ((bag, ob) :: (used, listOf us.toArray n1) :: ((lawPre L bk tyl (listOf bs.toArray n2) (listOf (ts.map fun p => Value.ref p.1).toArray n3) o1 o2 o3 o4 o5 o6) ++ tl)))
    (k1 : o1.data = .cell (some (.ref bag))) (k2 : o2.data = .cell (some (.ref wh))) (k3 : o3.data = .cell (some (.ref used))) (k4 : o4.data = .cell (some (.ref tyl))) (k5 : ∃ c, o5.data = .cell c) (k6 : ∃ c, o6.data = .cell c) (e0_1 : @Ne Nat (bag) (used)) (e0_2 : @Ne Nat (bag) (bk)) (e0_3 : @Ne Nat (bag) (tyl)) (e0_4 : @Ne Nat (bag) (L + 1 + 1 + 1 + 1 + 1 + 1)) (e0_5 : @Ne Nat (bag) (L + 1 + 1 + 1 + 1 + 1)) (e0_6 : @Ne Nat (bag) (L + 1 + 1 + 1 + 1)) (e0_7 : @Ne Nat (bag) (L + 1 + 1 + 1)) (e0_8 : @Ne Nat (bag) (L + 1 + 1)) (e0_9 : @Ne Nat (bag) (L + 1)) (e1_2 : @Ne Nat (used) (bk)) (e1_3 : @Ne Nat (used) (tyl)) (e1_4 : @Ne Nat (used) (L + 1 + 1 + 1 + 1 + 1 + 1)) (e1_5 : @Ne Nat (used) (L + 1 + 1 + 1 + 1 + 1)) (e1_6 : @Ne Nat (used) (L + 1 + 1 + 1 + 1)) (e1_7 : @Ne Nat (used) (L + 1 + 1 + 1)) (e1_8 : @Ne Nat (used) (L + 1 + 1)) (e1_9 : @Ne Nat (used) (L + 1)) (e2_3 : @Ne Nat (bk) (tyl)) (e2_4 : @Ne Nat (bk) (L + 1 + 1 + 1 + 1 + 1 + 1)) (e2_5 : @Ne Nat (bk) (L + 1 + 1 + 1 + 1 + 1)) (e2_6 : @Ne Nat (bk) (L + 1 + 1 + 1 + 1)) (e2_7 : @Ne Nat (bk) (L + 1 + 1 + 1)) (e2_8 : @Ne Nat (bk) (L + 1 + 1)) (e2_9 : @Ne Nat (bk) (L + 1)) (e3_4 : @Ne Nat (tyl) (L + 1 + 1 + 1 + 1 + 1 + 1)) (e3_5 : @Ne Nat (tyl) (L + 1 + 1 + 1 + 1 + 1)) (e3_6 : @Ne Nat (tyl) (L + 1 + 1 + 1 + 1)) (e3_7 : @Ne Nat (tyl) (L + 1 + 1 + 1)) (e3_8 : @Ne Nat (tyl) (L + 1 + 1)) (e3_9 : @Ne Nat (tyl) (L + 1))
    (K : ∀ h' tk' m', Fr h₀ L h' m' → Q (.ret (.bool true)) { s0 with heap := h', toks := tk' }) :
    wpAny (model PySem.Challenge.rw_pb0010_01.row.prog w) (topA dp un gd (lawEnv L f cd) []) (execs ((funBody lawDef).drop 6) (lawEnv L f cd)) Q E' { s0 with heap := h, toks := tk } := by
  dsimp only [lawEnv, lawDef, funScope, funBody, PySem.Challenge.pw_pb0010_01, List.getLast?, List.getLast, Option.getD, List.drop]
  dsimp only [List.cons_append, List.nil_append] at N
  have tb := hIo bag (by simp)
  have hsc := hok.scr
  have hnb : @Ne Nat scr bag := by
    obtain ⟨_, _, _, e, _⟩ := hsc
    exact off1_mem tb _ e
  focus
    ((try dsimp only); walk1)
    ((try dsimp only); refine For_of ?_)
    iterate 13 ((try dsimp only); walk1)
    ((try dsimp only); refine' roll_use ?B1 ?F1 ?X1 ?N1 ?T1 rfl rfl ?d1 ?u1 ?U1 ?b1 ?l1 ?S1 ?n1 ?s01 ?s11 ?_; (case B1 => assumption); (case F1 => assumption); (case X1 => assumption); (case N1 => assumption); (case T1 => assumption); (case d1 => k_search 2); (case u1 => k_search 2); (case U1 => k_updF); (case b1 => assumption); (case l1 => omega); (case S1 => exact scr_tail (by with_reducible assumption) (fun a o e => News.get (by assumption) (by repeat (first | exact e | refine List.Mem.tail _ ?_)))); (case n1 => with_reducible assumption); (case s01 => omega); (case s11 => omega); (intro _ _ _ _ _ _ _ _ N'; (try dsimp only [List.cons_append, List.nil_append] at N'); revert N'; intro _))
    ((try dsimp only); walk1)
  all_goals (try dsimp only)
  rename Fr _ _ _ _ => F1
  rename News _ _ _ _ => N1
  rename BagO _ _ _ _ => hb1
  rename_i vl tvl ob1 hA tkA hvl
  refine for_range (LawJ w L bag used bk tyl scr wh fx o1 o2 o3 o4 o5 o6 mR dxs vxs 7) (by omega) (by omega) rfl F1 N1 ⟨_, _, _, _, _, _, ob1, us, n1, xs, bs, n2, n3, ts, es, tl, setAll_base (xs := turnNames), rfl, hIo, hok, hb1.more (by omega), hus, by omega, by omega, fun j q e => by have := hnum j q e; omega, hep, hup⟩ ?turn ?done
  case turn =>
    clear F1 N1
    intro i t m₁ news₁ h2 tk2 I oI hi J F2 N2 offI
    refine wpAny_assign_Name ?_
    iterate 2 (try ((try dsimp only); walk1))
    all_goals (try dsimp only)
    rename Fr _ _ _ _ => F3
    rename News _ _ _ _ => N3
    have ht := fun tk3 Q2 E2 => law_turn w mean mg mb dp un gd f cd A₀ h₀ L bag used bk tyl scr wh fx I o1 o2 o3 o4 o5 o6 oI mR m₁ dxs vxs 7 i t news₁ _ tk3 { s0 with heap := hA, toks := tkA } Q2 E2 B X Tp hd hu (by omega) (by omega) J F3 N3 offI k1 k2 k3 k4 e0_1 e0_2 e0_3 e0_4 e0_5 e0_6 e0_7 e0_8 e0_9 e1_2 e1_3 e1_4 e1_5 e1_6 e1_7 e1_8 e1_9 e2_3 e2_4 e2_5 e2_6 e2_7 e2_8 e2_9 e3_4 e3_5 e3_6 e3_7 e3_8 e3_9
    dsimp only [lawTurn, forBody, lawEnv, lawDef, funScope, funBody, PySem.Challenge.pw_pb0010_01, List.getLast?, List.getLast, Option.getD, List.getD, List.getElem?_cons_zero, List.getElem?_cons_succ] at ht
    exact ht _ _ _
  case done =>
    rintro m₁ news₁ h2 tk2 ⟨v1, v2, v3, v4, v5, v6, ob2, us2, n12, xs2, bs2, n22, n32, ts2, es2, tl2, rfl, rfl, hIo2, hok2, hb2, -, -, -, -, hep2, -⟩ F2 N2
    exact law_after w mean mg mb dp un gd f cd A₀ h₀ L bag used bk tyl scr wh fx o1 o2 o3 o4 o5 o6 ob2 _ dxs vxs n12 n22 n32 _ (by omega) us2 bs2 ts2 es2 tl2 h2 tk2 s0 Q E' B X Tp hd hu hok2 hIo2 hb2 hep2 (Eq.mp (congrArg (Fr h₀ L _) (lawMap_of rfl rfl)) F2) N2 k1 k2 k3 k4 k5 k6 e0_1 e0_2 e0_3 e0_4 e0_5 e0_6 e0_7 e0_8 e0_9 e1_2 e1_3 e1_4 e1_5 e1_6 e1_7 e1_8 e1_9 e2_3 e2_4 e2_5 e2_6 e2_7 e2_8 e2_9 e3_4 e3_5 e3_6 e3_7 e3_8 e3_9 K
theorem up_one {xs : List PySem.Str} {k : Int} {ks : List Nat} (h : UpR [(⟨-1, xs⟩ : BE)] k ks) : ks.length ≤ 1 := by
  cases ks with
  | nil => simp
  | cons j r =>
    obtain ⟨_, e, he, hr⟩ := h
    have hj : j = 0 := by have := lt_of_get he; simpa using this
    subst hj
    have : e = ⟨-1, xs⟩ := by simpa using he.symm
    subst this
    cases r with
    | nil => simp
    | cons j r =>
      have := hr.1
      exact absurd this (by show ¬ ((-1 : Int) = (j : Int)); omega)
theorem law_begin (w : World) (mean mg mb) (dp un : Nat) (gd : Option (List Code)) (f : Addr) (cd : Value) (A₀ : Around) (h₀ : Heap) (L bag used bk tyl scr wh x oA dA fA : Addr) (o1 o2 o3 o4 o5 o6 ob od : Obj) (mF : FMap) (W TT : TF) (tW tE : Tok) (dxs vxs cxs xs : List PySem.Str) (n1 n2 n3 n4 n5 : Nat) (us ws fvs : List Value) (ex tl : List (Addr × Obj)) (h : Heap) (tk : Nat) (s0 : Shared) (Q : Flow → Shared → Prop) (E' : Value → Shared → Prop)
    (B : Below A₀ h₀ [] h₀) (X : (hd.heap_1 w.params).In h₀) (Tp : TP mean mg mb h₀) (hd : dp + 200 < recursionLimit) (hu : un + 9800 < cLine) (hb : BagO w scr 6 ob) (hus : StrsAre us xs) (hxl : xs.length ≤ 5) (hR : RootR w (InL tl) x TT dxs vxs cxs) (hS : ScrR (InL tl) scr) (hW : TyH w (InL tl) wh W) (hWn : W.number = .int 5 tW)
    (hod : od.IsDictOf (SK w) (entKvs (-1) tE oA [(Str.ofString "fixed", .ref fA)])) (hws : StrsAre ws cxs) (hfs : StrsAre fvs (dxs ++ vxs)) (hmb : mF (Str.ofString "book") = some (.ref bk)) (hmf : mF (Str.ofString "fixed") = some (.ref fA))
    (hIo : LawOff L bag used bk tyl ((oA, listOf ws.toArray n4) :: (dA, od) :: (fA, listOf fvs.toArray n5) :: (ex ++ tl)))
    (F : Fr h₀ L h mF) (N : News h₀ L h ((bag, ob) :: (used, listOf us.toArray n1) :: (lawPre L bk tyl (listOf [Value.ref dA].toArray n2) (listOf [Value.ref x].toArray n3) o1 o2 o3 o4 o5 o6 ++ ((oA, listOf ws.toArray n4) :: (dA, od) :: (fA, listOf fvs.toArray n5) :: (ex ++ tl)))))
    (k1 : o1.data = .cell (some (.ref bag))) (k2 : o2.data = .cell (some (.ref wh))) (k3 : o3.data = .cell (some (.ref used))) (k4 : o4.data = .cell (some (.ref tyl))) (k5 : ∃ c, o5.data = .cell c) (k6 : ∃ c, o6.data = .cell c) (e0_1 : @Ne Nat (bag) (used)) (e0_2 : @Ne Nat (bag) (bk)) (e0_3 : @Ne Nat (bag) (tyl)) (e0_4 : @Ne Nat (bag) (L + 1 + 1 + 1 + 1 + 1 + 1)) (e0_5 : @Ne Nat (bag) (L + 1 + 1 + 1 + 1 + 1)) (e0_6 : @Ne Nat (bag) (L + 1 + 1 + 1 + 1)) (e0_7 : @Ne Nat (bag) (L + 1 + 1 + 1)) (e0_8 : @Ne Nat (bag) (L + 1 + 1)) (e0_9 : @Ne Nat (bag) (L + 1)) (e1_2 : @Ne Nat (used) (bk)) (e1_3 : @Ne Nat (used) (tyl)) (e1_4 : @Ne Nat (used) (L + 1 + 1 + 1 + 1 + 1 + 1)) (e1_5 : @Ne Nat (used) (L + 1 + 1 + 1 + 1 + 1)) (e1_6 : @Ne Nat (used) (L + 1 + 1 + 1 + 1)) (e1_7 : @Ne Nat (used) (L + 1 + 1 + 1)) (e1_8 : @Ne Nat (used) (L + 1 + 1)) (e1_9 : @Ne Nat (used) (L + 1)) (e2_3 : @Ne Nat (bk) (tyl)) (e2_4 : @Ne Nat (bk) (L + 1 + 1 + 1 + 1 + 1 + 1)) (e2_5 : @Ne Nat (bk) (L + 1 + 1 + 1 + 1 + 1)) (e2_6 : @Ne Nat (bk) (L + 1 + 1 + 1 + 1)) (e2_7 : @Ne Nat (bk) (L + 1 + 1 + 1)) (e2_8 : @Ne Nat (bk) (L + 1 + 1)) (e2_9 : @Ne Nat (bk) (L + 1)) (e3_4 : @Ne Nat (tyl) (L + 1 + 1 + 1 + 1 + 1 + 1)) (e3_5 : @Ne Nat (tyl) (L + 1 + 1 + 1 + 1 + 1)) (e3_6 : @Ne Nat (tyl) (L + 1 + 1 + 1 + 1)) (e3_7 : @Ne Nat (tyl) (L + 1 + 1 + 1)) (e3_8 : @Ne Nat (tyl) (L + 1 + 1)) (e3_9 : @Ne Nat (tyl) (L + 1))
    (K : ∀ h' tk' m', Fr h₀ L h' m' → Q (.ret (.bool true)) { s0 with heap := h', toks := tk' }) :
    wpAny (model PySem.Challenge.rw_pb0010_01.row.prog w) (topA dp un gd (lawEnv L f cd) []) (execs ((funBody lawDef).drop 6) (lawEnv L f cd)) Q E' { s0 with heap := h, toks := tk } := by
  have up : ∀ a o, (a, o) ∈ tl → (a, o) ∈ (oA, listOf ws.toArray n4) :: (dA, od) :: (fA, listOf fvs.toArray n5) :: (ex ++ tl) := fun a o e => .tail _ (.tail _ (.tail _ (List.mem_append_right _ e)))
  refine byNo fun hno => ?_
  obtain ⟨l1, l2, l3⟩ := hR.len
  obtain ⟨tN, hnum⟩ := hR.num
  refine hno ?_
  clear hno
  have hT := TysOK.root hR.ty hR.tagged ⟨_, _, hnum⟩ hR.parent hR.discs (by omega) hR.comps (by omega) hR.var hR.nodup
  have hdl : (dxs ++ vxs).length ≤ 2 := by rw [List.length_append]; omega
  refine law_loop w mean mg mb dp un gd f cd A₀ h₀ L bag used bk tyl scr wh fA o1 o2 o3 o4 o5 o6 ob mF dxs vxs xs n1 n2 n3 us [.ref dA] [(x, TT)] [⟨-1, cxs⟩] ((oA, listOf ws.toArray n4) :: (dA, od) :: (fA, listOf fvs.toArray n5) :: (ex ++ tl)) h tk s0 Q E' B X Tp hd hu
    { scr := hS.mono up, whole := ⟨W, tW, hW.mono up, hWn⟩, fixed := ⟨fvs, n5, .tail _ (.tail _ (.head _)), hfs⟩, tys := hT.mono up, ents := ⟨rfl, fun i e he => ?_⟩, fix := ⟨dA, od, -1, tE, oA, fA, fvs, n5, rfl, .tail _ (.head _), hod, .tail _ (.tail _ (.head _)), hfs⟩, dlen := hdl } hIo hb hus hxl (by simp) (fun j q hq => ?_) (by simp) (fun k ks hk => up_one hk)
    (Eq.mp (congrArg (Fr h₀ L h) (lawMap_of hmb hmf)) F) N k1 k2 k3 k4 k5 k6 e0_1 e0_2 e0_3 e0_4 e0_5 e0_6 e0_7 e0_8 e0_9 e1_2 e1_3 e1_4 e1_5 e1_6 e1_7 e1_8 e1_9 e2_3 e2_4 e2_5 e2_6 e2_7 e2_8 e2_9 e3_4 e3_5 e3_6 e3_7 e3_8 e3_9 K
  · have hi : i = 0 := by have := lt_of_get he; simpa using this
    subst hi
    have : e = ⟨-1, cxs⟩ := by simpa using he.symm
    subst this
    exact ⟨_, rfl, dA, od, oA, tE, _, ws, n4, rfl, .tail _ (.head _), hod, .head _, hws⟩
  · have hj : j = 0 := by have := lt_of_get hq; simpa using this
    subst hj
    have : q = (x, TT) := by simpa using hq.symm
    subst this
    show TT.num < 60
    unfold TF.num
    rw [hnum]
    show (50 : Int) < 60
    decide
end
set_option maxHeartbeats 1000000


theorem offOfLt {d : Addr} : ∀ {l : List (Addr × Obj)}, AllLt d l → Off1 d l
  | [], _ => trivial
  | _ :: _, h => ⟨Nat.ne_of_lt h.1, offOfLt h.2⟩
theorem LawOff.consO {L bag used bk tyl : Addr} {p : Addr × Obj} {a b o1 o2 o3 o4 o5 o6 : Obj} {tl tl' : List (Addr × Obj)} (h : LawOff L bag used bk tyl tl) (k : Off1 p.1 ((bag, a) :: (used, b) :: (L + 1 + 1 + 1 + 1 + 1 + 1, o6) :: (L + 1 + 1 + 1 + 1 + 1, o5) :: (L + 1 + 1 + 1 + 1, o4) :: (L + 1 + 1 + 1, o3) :: (L + 1 + 1, o2) :: (L + 1, o1) :: tl')) (hb : @Ne Nat p.1 bk) (ht : @Ne Nat p.1 tyl) : LawOff L bag used bk tyl (p :: tl) :=
  h.cons (tenOf k.1.symm k.2.1.symm hb ht k.2.2.1.symm k.2.2.2.1.symm k.2.2.2.2.1.symm k.2.2.2.2.2.1.symm k.2.2.2.2.2.2.1.symm k.2.2.2.2.2.2.2.1.symm)
set_option maxHeartbeats 4000000
theorem law_pre_end (w : World) (mean mg mb) (dp un : Nat) (gd : Option (List Code)) (f : Addr) (cd : Value) (A₀ : Around) (h₀ : Heap) (L bag used lb lt scr wh x D d D1 D2 l2 : Addr) (o1 o2 o3 o4 o5 o6 ob od e2 : Obj) (mF : FMap) (W TT : TF) (tW tE t1 t2 t3 : Tok) (dxs vxs cxs xs : List PySem.Str) (n1 n2 n3 n5 : Nat) (us ws ws1 vs fvs : List Value) (tl : List (Addr × Obj)) (h : Heap) (tk : Nat) (s0 : Shared) (Q : Flow → Shared → Prop) (E' : Value → Shared → Prop)
    (B : Below A₀ h₀ [] h₀) (X : (hd.heap_1 w.params).In h₀) (Tp : TP mean mg mb h₀) (hd : dp + 200 < recursionLimit) (hu : un + 9800 < cLine) (hb : BagO w scr 6 ob) (hus : StrsAre us xs) (hxl : xs.length ≤ 5) (hR : RootR w (InL tl) x TT dxs vxs cxs) (hS : ScrR (InL tl) scr) (hW : TyH w (InL tl) wh W) (hWn : W.number = .int 5 tW)
    (hod : od.IsDictOf (PySem.strKind PySem.Challenge.rw_pb0010_01.row.prog w) (strPairs [(Value.str (Str.ofString "parent") t1, Value.int (-1) tE), (Value.str (Str.ofString "own") t2, Value.ref D), (Value.str (Str.ofString "fixed") t3, Value.ref D1)])) (hws : StrsAre ws cxs) (hw1 : StrsAre ws1 dxs) (hvs : StrsAre vs vxs) (hfv : fvs = ws1 ++ vs) (hmb : mF (Str.ofString "book") = some (.ref lb)) (hmf : mF (Str.ofString "fixed") = some (.ref D1))
    (off : ∀ a ∈ [bag, used, L + 1 + 1 + 1 + 1 + 1 + 1, L + 1 + 1 + 1 + 1 + 1, L + 1 + 1 + 1 + 1, L + 1 + 1 + 1, L + 1 + 1, L + 1], Off1 a tl) (nD2 : Off1 D2 ((bag, ob) :: (used, listOf us.toArray n1) :: ((L + 1 + 1 + 1 + 1 + 1 + 1, o6) :: (L + 1 + 1 + 1 + 1 + 1, o5) :: (L + 1 + 1 + 1 + 1, o4) :: (L + 1 + 1 + 1, o3) :: (L + 1 + 1, o2) :: (L + 1, o1) :: tl))) (cl2 : AllLt l2 ((D2, lst ws1) :: (bag, ob) :: (used, listOf us.toArray n1) :: ((L + 1 + 1 + 1 + 1 + 1 + 1, o6) :: (L + 1 + 1 + 1 + 1 + 1, o5) :: (L + 1 + 1 + 1 + 1, o4) :: (L + 1 + 1 + 1, o3) :: (L + 1 + 1, o2) :: (L + 1, o1) :: tl))) (cD1 : AllLt D1 ((l2, e2) :: (D2, lst ws1) :: (bag, ob) :: (used, listOf us.toArray n1) :: ((L + 1 + 1 + 1 + 1 + 1 + 1, o6) :: (L + 1 + 1 + 1 + 1 + 1, o5) :: (L + 1 + 1 + 1 + 1, o4) :: (L + 1 + 1 + 1, o3) :: (L + 1 + 1, o2) :: (L + 1, o1) :: tl))) (cd' : AllLt d ((D1, listOf fvs.toArray n5) :: (l2, e2) :: (D2, lst ws1) :: (bag, ob) :: (used, listOf us.toArray n1) :: ((L + 1 + 1 + 1 + 1 + 1 + 1, o6) :: (L + 1 + 1 + 1 + 1 + 1, o5) :: (L + 1 + 1 + 1 + 1, o4) :: (L + 1 + 1 + 1, o3) :: (L + 1 + 1, o2) :: (L + 1, o1) :: tl))) (nD : Off1 D ((d, od) :: (D1, listOf fvs.toArray n5) :: (l2, e2) :: (D2, lst ws1) :: (bag, ob) :: (used, listOf us.toArray n1) :: ((L + 1 + 1 + 1 + 1 + 1 + 1, o6) :: (L + 1 + 1 + 1 + 1 + 1, o5) :: (L + 1 + 1 + 1 + 1, o4) :: (L + 1 + 1 + 1, o3) :: (L + 1 + 1, o2) :: (L + 1, o1) :: tl)))
    (clb : AllLt lb ((D, lst ws) :: (d, od) :: (D1, listOf fvs.toArray n5) :: (l2, e2) :: (D2, lst ws1) :: (bag, ob) :: (used, listOf us.toArray n1) :: ((L + 1 + 1 + 1 + 1 + 1 + 1, o6) :: (L + 1 + 1 + 1 + 1 + 1, o5) :: (L + 1 + 1 + 1 + 1, o4) :: (L + 1 + 1 + 1, o3) :: (L + 1 + 1, o2) :: (L + 1, o1) :: tl))) (clt : AllLt lt ((lb, listOf [Value.ref d].toArray n2) :: (D, lst ws) :: (d, od) :: (D1, listOf fvs.toArray n5) :: (l2, e2) :: (D2, lst ws1) :: (bag, ob) :: (used, listOf us.toArray n1) :: ((L + 1 + 1 + 1 + 1 + 1 + 1, o6) :: (L + 1 + 1 + 1 + 1 + 1, o5) :: (L + 1 + 1 + 1 + 1, o4) :: (L + 1 + 1 + 1, o3) :: (L + 1 + 1, o2) :: (L + 1, o1) :: tl)))
    (F : Fr h₀ L h mF) (N : News h₀ L h ((lt, listOf [Value.ref x].toArray n3) :: (lb, listOf [Value.ref d].toArray n2) :: (D, lst ws) :: (d, od) :: (D1, listOf fvs.toArray n5) :: (l2, e2) :: (D2, lst ws1) :: (bag, ob) :: (used, listOf us.toArray n1) :: ((L + 1 + 1 + 1 + 1 + 1 + 1, o6) :: (L + 1 + 1 + 1 + 1 + 1, o5) :: (L + 1 + 1 + 1 + 1, o4) :: (L + 1 + 1 + 1, o3) :: (L + 1 + 1, o2) :: (L + 1, o1) :: tl)))
    (k1 : o1.data = .cell (some (.ref bag))) (k2 : o2.data = .cell (some (.ref wh))) (k3 : o3.data = .cell (some (.ref used))) (k4 : o4.data = .cell (some (.ref lt))) (k5 : o5.data = .cell none) (k6 : o6.data = .cell none) (g0 : @Ne Nat bag used) (ga0 : @Ne Nat bag (L + 1 + 1 + 1 + 1 + 1 + 1)) (ga1 : @Ne Nat bag (L + 1 + 1 + 1 + 1 + 1)) (ga2 : @Ne Nat bag (L + 1 + 1 + 1 + 1)) (ga3 : @Ne Nat bag (L + 1 + 1 + 1)) (ga4 : @Ne Nat bag (L + 1 + 1)) (ga5 : @Ne Nat bag (L + 1)) (gb0 : @Ne Nat used (L + 1 + 1 + 1 + 1 + 1 + 1)) (gb1 : @Ne Nat used (L + 1 + 1 + 1 + 1 + 1)) (gb2 : @Ne Nat used (L + 1 + 1 + 1 + 1)) (gb3 : @Ne Nat used (L + 1 + 1 + 1)) (gb4 : @Ne Nat used (L + 1 + 1)) (gb5 : @Ne Nat used (L + 1))
    (K : ∀ h' tk' m', Fr h₀ L h' m' → Q (.ret (.bool true)) { s0 with heap := h', toks := tk' }) :
    wpAny (model PySem.Challenge.rw_pb0010_01.row.prog w) (topA dp un gd (lawEnv L f cd) []) (execs ((funBody lawDef).drop 6) (lawEnv L f cd)) Q E' { s0 with heap := h, toks := tk } := by
  subst hfv
  have ob_ := offOfLt clb
  have ot_ := offOfLt clt
  have tb_ := ob_.2.2.2.2.2.2.2.2.2.2.2.2.2
  have tt_ := ot_.2.2.2.2.2.2.2.2.2.2.2.2.2.2
  have hIo : LawOff L bag used lb lt tl := tenOf (off _ (.head _)) (off _ (.tail _ (.head _))) tb_ tt_ (off _ (.tail _ (.tail _ (.head _)))) (off _ (.tail _ (.tail _ (.tail _ (.head _))))) (off _ (.tail _ (.tail _ (.tail _ (.tail _ (.head _)))))) (off _ (.tail _ (.tail _ (.tail _ (.tail _ (.tail _ (.head _))))))) (off _ (.tail _ (.tail _ (.tail _ (.tail _ (.tail _ (.tail _ (.head _)))))))) (off _ (.tail _ (.tail _ (.tail _ (.tail _ (.tail _ (.tail _ (.tail _ (.head _)))))))))
  have hI2 := LawOff.consO (p := (D2, lst ws1)) hIo nD2 (ob_.2.2.2.2.1) (ot_.2.2.2.2.2.1)
  have hI3 := LawOff.consO (p := (l2, e2)) hI2 (offOfLt cl2).2 (ob_.2.2.2.1) (ot_.2.2.2.2.1)
  have hI4 := LawOff.consO (p := (D1, listOf (ws1 ++ vs).toArray n5)) hI3 (offOfLt cD1).2.2 (ob_.2.2.1) (ot_.2.2.2.1)
  have hI5 := LawOff.consO (p := (d, od)) hI4 (offOfLt cd').2.2.2 (ob_.2.1) (ot_.2.2.1)
  have hI6 := LawOff.consO (p := (D, lst ws)) hI5 nD.2.2.2.2 ob_.1 ot_.2.1
  exact law_begin w mean mg mb dp un gd f cd A₀ h₀ L bag used lb lt scr wh x D d D1 o1 o2 o3 o4 o5 o6 ob od mF W TT tW tE dxs vxs cxs xs n1 n2 n3 _ n5 us ws (ws1 ++ vs) [(l2, e2), (D2, lst ws1)] tl h tk s0 Q E' B X Tp hd hu hb hus hxl hR hS hW hWn hod hws (hw1.append' hvs) hmb hmf hI6 F (fun p hp => N p ((by k_search 15 : ∀ q ∈ _, q ∈ _) p hp)) k1 k2 k3 k4 ⟨_, k5⟩ ⟨_, k6⟩ g0 (ob_.2.2.2.2.2.1) (ot_.2.2.2.2.2.2.1) ga0 ga1 ga2 ga3 ga4 ga5 (ob_.2.2.2.2.2.2.1) (ot_.2.2.2.2.2.2.2.1) gb0 gb1 gb2 gb3 gb4 gb5 (ot_.1) (Ne.symm ob_.2.2.2.2.2.2.2.1) (Ne.symm ob_.2.2.2.2.2.2.2.2.1) (Ne.symm ob_.2.2.2.2.2.2.2.2.2.1) (Ne.symm ob_.2.2.2.2.2.2.2.2.2.2.1) (Ne.symm ob_.2.2.2.2.2.2.2.2.2.2.2.1) (Ne.symm ob_.2.2.2.2.2.2.2.2.2.2.2.2.1) (Ne.symm ot_.2.2.2.2.2.2.2.2.1) (Ne.symm ot_.2.2.2.2.2.2.2.2.2.1) (Ne.symm ot_.2.2.2.2.2.2.2.2.2.2.1) (Ne.symm ot_.2.2.2.2.2.2.2.2.2.2.2.1) (Ne.symm ot_.2.2.2.2.2.2.2.2.2.2.2.2.1) (Ne.symm ot_.2.2.2.2.2.2.2.2.2.2.2.2.2.1) K
section

set_option maxHeartbeats 8000000
theorem law_start (w : World) (mean mg mb) (dp un : Nat) (gd : Option (List Code)) (f : Addr) (cd : Value) (A₀ : Around) (h₀ : Heap) (L bag used scr wh x : Addr) (o1 o2 o3 o4 o5 o6 ob : Obj) (mR : FMap) (W TT : TF) (tW : Tok) (dxs vxs cxs xs : List PySem.Str) (us : List Value) (n1 : Nat) (tl : List (Addr × Obj)) (h : Heap) (tk : Nat) (s0 : Shared) (Q : Flow → Shared → Prop) (E' : Value → Shared → Prop)
    (B : Below A₀ h₀ [] h₀) (X : (hd.heap_1 w.params).In h₀) (Tp : TP mean mg mb h₀) (hd : dp + 200 < recursionLimit) (hu : un + 9800 < cLine) (hb : BagO w scr 6 ob) (hus : StrsAre us xs) (hxl : xs.length ≤ 5) (hR : RootR w (InL tl) x TT dxs vxs cxs) (hS : ScrR (InL tl) scr) (hW : TyH w (InL tl) wh W) (hWn : W.number = .int 5 tW)
    (F : Fr h₀ L h (fun y => if y = Str.ofString "root" then some (.ref x) else mR y)) (N : News h₀ L h ((bag, ob) :: (used, listOf us.toArray n1) :: ([(L + 1 + 1 + 1 + 1 + 1 + 1, o6), (L + 1 + 1 + 1 + 1 + 1, o5), (L + 1 + 1 + 1 + 1, o4), (L + 1 + 1 + 1, o3), (L + 1 + 1, o2), (L + 1, o1)] ++ tl)))
    (off : ∀ a ∈ [bag, used, L + 1 + 1 + 1 + 1 + 1 + 1, L + 1 + 1 + 1 + 1 + 1, L + 1 + 1 + 1 + 1, L + 1 + 1 + 1, L + 1 + 1, L + 1], Off1 a tl)
    (k1 : o1.data = .cell (some (.ref bag))) (k2 : o2.data = .cell (some (.ref wh))) (k3 : o3.data = .cell (some (.ref used))) (k4 : o4.data = .cell none) (k5 : o5.data = .cell none) (k6 : o6.data = .cell none) (g0 : @Ne Nat bag used) (ga0 : @Ne Nat bag (L + 1 + 1 + 1 + 1 + 1 + 1)) (ga1 : @Ne Nat bag (L + 1 + 1 + 1 + 1 + 1)) (ga2 : @Ne Nat bag (L + 1 + 1 + 1 + 1)) (ga3 : @Ne Nat bag (L + 1 + 1 + 1)) (ga4 : @Ne Nat bag (L + 1 + 1)) (ga5 : @Ne Nat bag (L + 1)) (gb0 : @Ne Nat used (L + 1 + 1 + 1 + 1 + 1 + 1)) (gb1 : @Ne Nat used (L + 1 + 1 + 1 + 1 + 1)) (gb2 : @Ne Nat used (L + 1 + 1 + 1 + 1)) (gb3 : @Ne Nat used (L + 1 + 1 + 1)) (gb4 : @Ne Nat used (L + 1 + 1)) (gb5 : @Ne Nat used (L + 1))
    (K : ∀ h' tk' m', Fr h₀ L h' m' → Q (.ret (.bool true)) { s0 with heap := h', toks := tk' }) :
    wpAny (model PySem.Challenge.rw_pb0010_01.row.prog w) (topA dp un gd (lawEnv L f cd) []) (execs ((funBody lawDef).drop 3) (lawEnv L f cd)) Q E' { s0 with heap := h, toks := tk } := by
  dsimp only [lawEnv, lawDef, funScope, funBody, PySem.Challenge.pw_pb0010_01, List.getLast?, List.getLast, Option.getD, List.drop]
  dsimp only [List.cons_append, List.nil_append] at N
  have hty := hR.ty
  refine byNo fun hno => ?_
  obtain ⟨Dd, nd, dvs, hd1, hd2, hd3⟩ := hR.discs
  obtain ⟨Dc, nc, cvs, hc1, hc2, hc3⟩ := hR.comps
  obtain ⟨ld, lv, lc⟩ := hR.len
  refine hno ?_
  clear hno
  have ld' := hd3.1
  have lc' := hc3.1
  have tb := off bag (by simp)
  have tu := off used (by simp)
  have t4 := off (L + 1 + 1 + 1 + 1) (by simp)
  rcases hR.var with ⟨hv, rfl⟩ | ⟨va, -, -, -, -, -, -, -, -, -, -, hv, -, -, -, -, -, rfl⟩
  · (focus ((iterate 3 ((try dsimp only); walk1)); ((try dsimp only); refine rows_comp (by assumption) rfl rfl (by decide) rfl (by decide) (by decide) (by decide) ?_); (iterate 2 ((try dsimp only); walk1)); ((try dsimp only); refine tyE_discs (by assumption) (by assumption) (ty_tail (by with_reducible assumption) (fun a o e => News.get (by assumption) (by repeat (first | exact e | refine List.Mem.tail _ ?_)))) (by with_reducible assumption) ?_); (((with_reducible show RowsSrc _ _ _ _ _ _); first | refine rowsSrc_base (by assumption) (by assumption) (by with_reducible assumption) (by k_search 5) (by k_search 4) ?_ | refine rowsSrc_led (by assumption) (by assumption) (by k_search 3) (by k_search 5) (by k_search 4) ?_); (intro _ _ _ _ hw y5 y6 y7; (have hwl := StrsAre.length hw); (try simp only [List.length_cons, List.length_nil, List.length_drop, List.length_append] at hwl); revert hw y5 y6 y7 hwl; intro _ _ _ _ _)); (iterate 4 ((try dsimp only); walk1)); ((try dsimp only); refine tyE_variant (by assumption) (by assumption) (ty_tail (by with_reducible assumption) (fun a o e => News.get (by assumption) (by repeat (first | exact e | refine List.Mem.tail _ ?_)))) (by with_reducible assumption) ?_); (iterate 7 ((try dsimp only); walk1)); ((try dsimp only); refine add_L (by assumption) (by assumption) (by first | exact isListOf (News.get (by assumption) (by k_search 3)) | exact isListOf (News.get (by assumption) (by repeat (first | with_reducible assumption | refine List.mem_cons_of_mem _ ?_))) | exact Heap.IsList.at (by assumption) (fun o e => Fr.keep (by assumption) _ o e)) (by first | exact isListOf (News.get (by assumption) (by k_search 3)) | exact isListOf (News.get (by assumption) (by repeat (first | with_reducible assumption | refine List.mem_cons_of_mem _ ?_))) | exact Heap.IsList.at (by assumption) (fun o e => Fr.keep (by assumption) _ o e)) ?_ (by k_search 4); (intro _ _ _ _ lt; (try replace lt := allLt_of lt); revert lt; intro _)); (iterate 14 ((try dsimp only); walk1)); ((try dsimp only); refine rows_comp (by assumption) rfl rfl (by decide) rfl (by decide) (by decide) (by decide) ?_); (iterate 2 ((try dsimp only); walk1)); ((try dsimp only); refine tyE_comps (by assumption) (by assumption) (ty_tail (by with_reducible assumption) (fun a o e => News.get (by assumption) (by repeat (first | exact e | refine List.Mem.tail _ ?_)))) (by with_reducible assumption) ?_); (((with_reducible show RowsSrc _ _ _ _ _ _); first | refine rowsSrc_base (by assumption) (by assumption) (by with_reducible assumption) (by k_search 5) (by k_search 4) ?_ | refine rowsSrc_led (by assumption) (by assumption) (by k_search 3) (by k_search 5) (by k_search 4) ?_); (intro _ _ _ _ hw y5 y6 y7; (have hwl := StrsAre.length hw); (try simp only [List.length_cons, List.length_nil, List.length_drop, List.length_append] at hwl); revert hw y5 y6 y7 hwl; intro _ _ _ _ _)); (iterate 17 ((try dsimp only); walk1))))
    (try dsimp only)
    rename Fr _ _ _ _ => F1
    rename News _ _ _ _ => N1
    refine law_pre_end w mean mg mb dp un gd f cd A₀ h₀ L bag used _ _ scr wh x _ _ _ _ _ o1 o2 o3 _ o5 o6 ob _ _ _ W TT tW _ _ _ _ dxs _ cxs xs n1 _ _ _ us _ _ _ _ tl _ _ s0 Q E' B X Tp hd hu hb hus hxl hR hS hW hWn (by assumption) (by assumption) (by assumption) ?_ (by exact rfl) (by exact rfl) (by exact rfl) off (by assumption) (by assumption) (by assumption) (by assumption) (by assumption) (by assumption) (by assumption) F1 N1 k1 k2 k3 (by assumption) k5 k6 g0 ga0 ga1 ga2 ga3 ga4 ga5 gb0 gb1 gb2 gb3 gb4 gb5 K
    first | exact StrsAre.nil | exact StrsAre.cons _ _ StrsAre.nil
  · (focus ((iterate 3 ((try dsimp only); walk1)); ((try dsimp only); refine rows_comp (by assumption) rfl rfl (by decide) rfl (by decide) (by decide) (by decide) ?_); (iterate 2 ((try dsimp only); walk1)); ((try dsimp only); refine tyE_discs (by assumption) (by assumption) (ty_tail (by with_reducible assumption) (fun a o e => News.get (by assumption) (by repeat (first | exact e | refine List.Mem.tail _ ?_)))) (by with_reducible assumption) ?_); (((with_reducible show RowsSrc _ _ _ _ _ _); first | refine rowsSrc_base (by assumption) (by assumption) (by with_reducible assumption) (by k_search 5) (by k_search 4) ?_ | refine rowsSrc_led (by assumption) (by assumption) (by k_search 3) (by k_search 5) (by k_search 4) ?_); (intro _ _ _ _ hw y5 y6 y7; (have hwl := StrsAre.length hw); (try simp only [List.length_cons, List.length_nil, List.length_drop, List.length_append] at hwl); revert hw y5 y6 y7 hwl; intro _ _ _ _ _)); (iterate 4 ((try dsimp only); walk1)); ((try dsimp only); refine tyE_variant (by assumption) (by assumption) (ty_tail (by with_reducible assumption) (fun a o e => News.get (by assumption) (by repeat (first | exact e | refine List.Mem.tail _ ?_)))) (by with_reducible assumption) ?_); (iterate 9 ((try dsimp only); walk1)); ((try dsimp only); refine add_L (by assumption) (by assumption) (by first | exact isListOf (News.get (by assumption) (by k_search 3)) | exact isListOf (News.get (by assumption) (by repeat (first | with_reducible assumption | refine List.mem_cons_of_mem _ ?_))) | exact Heap.IsList.at (by assumption) (fun o e => Fr.keep (by assumption) _ o e)) (by first | exact isListOf (News.get (by assumption) (by k_search 3)) | exact isListOf (News.get (by assumption) (by repeat (first | with_reducible assumption | refine List.mem_cons_of_mem _ ?_))) | exact Heap.IsList.at (by assumption) (fun o e => Fr.keep (by assumption) _ o e)) ?_ (by k_search 4); (intro _ _ _ _ lt; (try replace lt := allLt_of lt); revert lt; intro _)); (iterate 14 ((try dsimp only); walk1)); ((try dsimp only); refine rows_comp (by assumption) rfl rfl (by decide) rfl (by decide) (by decide) (by decide) ?_); (iterate 2 ((try dsimp only); walk1)); ((try dsimp only); refine tyE_comps (by assumption) (by assumption) (ty_tail (by with_reducible assumption) (fun a o e => News.get (by assumption) (by repeat (first | exact e | refine List.Mem.tail _ ?_)))) (by with_reducible assumption) ?_); (((with_reducible show RowsSrc _ _ _ _ _ _); first | refine rowsSrc_base (by assumption) (by assumption) (by with_reducible assumption) (by k_search 5) (by k_search 4) ?_ | refine rowsSrc_led (by assumption) (by assumption) (by k_search 3) (by k_search 5) (by k_search 4) ?_); (intro _ _ _ _ hw y5 y6 y7; (have hwl := StrsAre.length hw); (try simp only [List.length_cons, List.length_nil, List.length_drop, List.length_append] at hwl); revert hw y5 y6 y7 hwl; intro _ _ _ _ _)); (iterate 17 ((try dsimp only); walk1))))
    (try dsimp only)
    rename Fr _ _ _ _ => F1
    rename News _ _ _ _ => N1
    refine law_pre_end w mean mg mb dp un gd f cd A₀ h₀ L bag used _ _ scr wh x _ _ _ _ _ o1 o2 o3 _ o5 o6 ob _ _ _ W TT tW _ _ _ _ dxs _ cxs xs n1 _ _ _ us _ _ _ _ tl _ _ s0 Q E' B X Tp hd hu hb hus hxl hR hS hW hWn (by assumption) (by assumption) (by assumption) ?_ (by exact rfl) (by exact rfl) (by exact rfl) off (by assumption) (by assumption) (by assumption) (by assumption) (by assumption) (by assumption) (by assumption) F1 N1 k1 k2 k3 (by assumption) k5 k6 g0 ga0 ga1 ga2 ga3 ga4 ga5 gb0 gb1 gb2 gb3 gb4 gb5 K
    first | exact StrsAre.nil | exact StrsAre.cons _ _ StrsAre.nil
end
set_option maxHeartbeats 1000000

theorem int_use {w : World} {mean : ExcName → Option Value} {mg mb : PySem.Str → Option Value} {dp un : Nat} {gd : Option (List Code)} {env : Env} {outer : List Env} {A₀ : Around} {base h₀ : Heap} {L : Addr} {m : PySem.Str → Option Value} {s : Shared} {Q : Value → Shared → Prop} {E : Value → Shared → Prop} {news : List (Addr × Obj)} {name low high : Value} (B : Below A₀ base outer h₀) (F : Fr h₀ L s.heap m) (X : (hd.heap_1 w.params).In h₀) (N : News h₀ L s.heap news) (T0 : TP mean mg mb h₀)
    (hf : env.frame = some L) (hk : env.scope.kind = .function) (hd : dp + 30 < recursionLimit) (hu : un + 2000 < cLine) (hnm : handedIn name = true) (hlo : handedIn low = true) (hhi : handedIn high = true)
    (ret : ∀ x d op oo T k0 k1 k2 k3 k4 k5 k6 k7 k8 k9 k10 k11 k12 k13 k14 k15 k16 k17 k18 k19 k20 h' tk', Fr h₀ L h' m → News h₀ L h' ((x, instObj 94 d) :: (d, dictOf (tyEs w k0 k1 k2 k3 k4 k5 k6 k7 k8 k9 k10 k11 k12 k13 k14 k15 k16 k17 k18 k19 k20 T) 21) :: (op, oo) :: news) → (@Ne Nat x d ∧ @Ne Nat op x ∧ @Ne Nat op d) → Off1 x news ∧ Off1 d news ∧ Off1 op news → (op == sysModules) = false ∧ T.handed = true → T.parent = .none → oo.IsDictOf (SK w) [] → T.ops = .ref op → Q (.ref x) { s with heap := h', toks := tk' }) :
    wpAny (model PySem.Challenge.rw_pb0010_01.row.prog w) (topA dp un gd env outer) (call (.ref 126) [name, low, high]) Q E s := by
  refine Spec.use0 (int_type_spec w mean mg mb name low high hnm hlo hhi) B F X N T0 hf hk hd hu trivial ?_
  rintro r new h' tk' F' N' hne - ⟨x, d, op, od, oo, T, rfl, h1, h2, h3, h4, h5, h6, ⟨k0, k1, k2, k3, k4, k5, k6, k7, k8, k9, k10, k11, k12, k13, k14, k15, k16, k17, k18, k19, k20, rfl⟩, h8, h9, rfl⟩
  exact ret x d op oo T k0 k1 k2 k3 k4 k5 k6 k7 k8 k9 k10 k11 k12 k13 k14 k15 k16 k17 k18 k19 k20 h' tk' F' N' ⟨h1, h2, h3⟩ ⟨off1_of fun q hq => hne q hq _ (.head _), off1_of fun q hq => hne q hq _ (.tail _ (.head _)), off1_of fun q hq => hne q hq _ (.tail _ (.tail _ (.head _)))⟩ ⟨h4, h5⟩ h6 h8 h9

theorem slice_60 {prog : Program} {w : World} {A : Around} {E : Value → Shared → Prop} {h₀ hh : Heap} {L l : Addr} {m : FMap} {news : List (Addr × Obj)} {value slice : PySem.Expr} {vs : List Value} {ns : List Int} {Q : Value → Shared → Prop} {ops : List Value} {gs : Array GenState} {dr : Drawn} {tk : Nat} {os : OsState} {u : Tok} (F : Fr h₀ L hh m) (N : News h₀ L hh news) (hl : hh.IsList l vs.toArray) (hi : IntsAre vs ns) (hz : ns.length ≤ 63)
    (h : ∀ D h' zs, Fr h₀ L h' m → News h₀ L h' ((D, listOf zs.toArray 0) :: news) → (∀ p ∈ news, @LT.lt Nat _ p.1 D) → IntsAre zs (ns.take 60) → Q (.ref D) ⟨h', gs, dr, tk, os⟩)
    (hs : subscripted slice false (.ref l) (.ref hh.objs.size) = operate ops (getItem (.ref l) (.ref hh.objs.size))) :
    wpAny (model prog w) A (subscriptTail value slice (.ref l) (.ref hh.objs.size)) Q E ⟨hh.push { cls := .type "slice", data := .fields #[.none, .int 60 u, .none] }, gs, dr, tk, os⟩ := by
  refine slice_any (s := ⟨hh, gs, dr, tk, os⟩) F N hl IsPart.none (IsPart.int _ _) IsPart.none (by decide) (fun h' F' N' => h _ h' (slicePick vs.toArray none (some 60) none).toList F' (by simpa using N') (fun p hp => Nat.lt_succ_of_lt (Heap.lt_size (N p hp).1)) (slice_ints_uptoW hi (by decide))) hs (by rw [List.size_toArray, hi.length, sizeLine_eq]; omega)

theorem hand_num {T : TF} {t : Tok} (h : T.handed = true) : ({ T with number := .int 5 t } : TF).handed = true := by
  have hI : handedIn (.int 5 t) = true := rfl
  simp only [TF.handed, Bool.and_eq_true, hI] at h ⊢
  simp only [h, and_self]
theorem eightOf {L bag used : Addr} {P : Addr → Prop} (h1 : P bag) (h2 : P used) (c0 : P (L + 1 + 1 + 1 + 1 + 1 + 1)) (c1 : P (L + 1 + 1 + 1 + 1 + 1)) (c2 : P (L + 1 + 1 + 1 + 1)) (c3 : P (L + 1 + 1 + 1)) (c4 : P (L + 1 + 1)) (c5 : P (L + 1)) : ∀ a ∈ [bag, used, L + 1 + 1 + 1 + 1 + 1 + 1, L + 1 + 1 + 1 + 1 + 1, L + 1 + 1 + 1 + 1, L + 1 + 1 + 1, L + 1 + 1, L + 1], P a := fun a ha => by
  simp only [List.mem_cons, List.not_mem_nil, or_false] at ha
  rcases ha with h | h | h | h | h | h | h | h <;> subst h <;> assumption
theorem eightO {L bag used p : Addr} {ob o1 o2 o3 o4 o5 o6 : Obj} (k : Off1 p ((bag, ob) :: (L + 1 + 1 + 1 + 1 + 1 + 1, o6) :: (L + 1 + 1 + 1 + 1 + 1, o5) :: (L + 1 + 1 + 1 + 1, o4) :: (L + 1 + 1 + 1, o3) :: (L + 1 + 1, o2) :: (L + 1, o1) :: [])) (hu : @Ne Nat used p) : ∀ a ∈ [bag, used, L + 1 + 1 + 1 + 1 + 1 + 1, L + 1 + 1 + 1 + 1 + 1, L + 1 + 1 + 1 + 1, L + 1 + 1 + 1, L + 1 + 1, L + 1], @Ne Nat p a :=
  eightOf k.1.symm hu.symm k.2.1.symm k.2.2.1.symm k.2.2.2.1.symm k.2.2.2.2.1.symm k.2.2.2.2.2.1.symm k.2.2.2.2.2.2.1.symm
theorem twoOff {b u : Addr} {l : List (Addr × Obj)} (h1 : Off1 b l) (h2 : Off1 u l) : ∀ p ∈ l, @Ne Nat p.1 b ∧ @Ne Nat p.1 u := fun p hp => ⟨nmOff h1 p hp, nmOff h2 p hp⟩
theorem offFour {q : Addr} {l : List (Addr × Obj)} {a b c d : Addr × Obj} (h1 : @Ne Nat a.1 q) (h2 : @Ne Nat b.1 q) (h3 : @Ne Nat c.1 q) (h4 : @Ne Nat d.1 q) (h : Off1 q l) : Off1 q (a :: b :: c :: d :: l) := ⟨h1, h2, h3, h4, h⟩
theorem root_from {w : World} {mean : ExcName → Option Value} {mg mb : PySem.Str → Option Value} {dp un : Nat} {gd : Option (List Code)} {env : Env} {A₀ : Around} {h₀ h : Heap} {L bg D x d op ul tp : Addr} {o1 o2 o3 o4 o5 o6 ob oo ot : Obj} {T : TF} {t5 : Tok} {zs : List Value} {zns : List Int} {n0 nD : Nat} {m : FMap} {tk : Nat} {s0 : Shared} {Q : Value → Shared → Prop} {E : Value → Shared → Prop} {k0 k1 k2 k3 k4 k5 k6 k7 k8 k9 k10 k11 k12 k13 k14 k15 k16 k17 k18 k19 k20 : Tok} {ta tb tc : Tok}
    (B : Below A₀ h₀ [] h₀) (F : Fr h₀ L h m) (X : (hd.heap_1 w.params).In h₀) (N : News h₀ L h ((tp, ot) :: (ul, listOf #[] n0) :: (x, instObj 94 d) :: (d, dictOf (tyEs w k0 k1 k2 k3 k4 k5 k6 k7 k8 k9 k10 k11 k12 k13 k14 k15 k16 k17 k18 k19 k20 { T with number := .int 5 t5 }) 21) :: (op, oo) :: (D, listOf zs.toArray nD) :: (bg, ob) :: (L + 1 + 1 + 1 + 1 + 1 + 1, o6) :: (L + 1 + 1 + 1 + 1 + 1, o5) :: (L + 1 + 1 + 1 + 1, o4) :: (L + 1 + 1 + 1, o3) :: (L + 1 + 1, o2) :: (L + 1, o1) :: [])) (Tp : TP mean mg mb h₀) (hf : env.frame = some L) (hk : env.scope.kind = .function) (hd : dp + 60 < recursionLimit) (hu : un + 5000 < cLine)
    (hod : ob.IsDictOf (PySem.strKind PySem.Challenge.rw_pb0010_01.row.prog w) (strPairs [(Value.str (Str.ofString "script") ta, Value.ref D), (Value.str (Str.ofString "turn") tb, Value.int 0 tc)])) (hz : IntsAre zs zns) (hzl : zns.length ≤ 60)
    (hsT : (op == sysModules) = false ∧ T.handed = true) (hdT : oo.IsDictOf (SK w) []) (hoT : T.ops = .ref op)
    (cbg : AllLt bg ((L + 1 + 1 + 1 + 1 + 1 + 1, o6) :: (L + 1 + 1 + 1 + 1 + 1, o5) :: (L + 1 + 1 + 1 + 1, o4) :: (L + 1 + 1 + 1, o3) :: (L + 1 + 1, o2) :: (L + 1, o1) :: [])) (cD : AllLt D ((bg, ob) :: (L + 1 + 1 + 1 + 1 + 1 + 1, o6) :: (L + 1 + 1 + 1 + 1 + 1, o5) :: (L + 1 + 1 + 1 + 1, o4) :: (L + 1 + 1 + 1, o3) :: (L + 1 + 1, o2) :: (L + 1, o1) :: [])) (cul : AllLt ul ((x, instObj 94 d) :: (d, dictOf (tyEs w k0 k1 k2 k3 k4 k5 k6 k7 k8 k9 k10 k11 k12 k13 k14 k15 k16 k17 k18 k19 k20 { T with number := .int 5 t5 }) 21) :: (op, oo) :: (D, listOf zs.toArray nD) :: (bg, ob) :: (L + 1 + 1 + 1 + 1 + 1 + 1, o6) :: (L + 1 + 1 + 1 + 1 + 1, o5) :: (L + 1 + 1 + 1 + 1, o4) :: (L + 1 + 1 + 1, o3) :: (L + 1 + 1, o2) :: (L + 1, o1) :: []))
    (fx : Off1 x ((D, listOf zs.toArray nD) :: (bg, ob) :: (L + 1 + 1 + 1 + 1 + 1 + 1, o6) :: (L + 1 + 1 + 1 + 1 + 1, o5) :: (L + 1 + 1 + 1 + 1, o4) :: (L + 1 + 1 + 1, o3) :: (L + 1 + 1, o2) :: (L + 1, o1) :: [])) (fd : Off1 d ((D, listOf zs.toArray nD) :: (bg, ob) :: (L + 1 + 1 + 1 + 1 + 1 + 1, o6) :: (L + 1 + 1 + 1 + 1 + 1, o5) :: (L + 1 + 1 + 1 + 1, o4) :: (L + 1 + 1 + 1, o3) :: (L + 1 + 1, o2) :: (L + 1, o1) :: [])) (fo : Off1 op ((D, listOf zs.toArray nD) :: (bg, ob) :: (L + 1 + 1 + 1 + 1 + 1 + 1, o6) :: (L + 1 + 1 + 1 + 1 + 1, o5) :: (L + 1 + 1 + 1 + 1, o4) :: (L + 1 + 1 + 1, o3) :: (L + 1 + 1, o2) :: (L + 1, o1) :: []))
    (ret : ∀ r TT dxs vxs cxs ob' us' xs' n' tl h' tk', Fr h₀ L h' m → News h₀ L h' ((bg, ob') :: (ul, listOf us'.toArray n') :: ([(L + 1 + 1 + 1 + 1 + 1 + 1, o6), (L + 1 + 1 + 1 + 1 + 1, o5), (L + 1 + 1 + 1 + 1, o4), (L + 1 + 1 + 1, o3), (L + 1 + 1, o2), (L + 1, o1)] ++ tl)) → (∀ a ∈ [bg, ul, L + 1 + 1 + 1 + 1 + 1 + 1, L + 1 + 1 + 1 + 1 + 1, L + 1 + 1 + 1 + 1, L + 1 + 1 + 1, L + 1 + 1, L + 1], Off1 a tl) → BagO w D 6 ob' → StrsAre us' xs' → xs'.length ≤ 5 → RootR w (InL tl) r TT dxs vxs cxs → ScrR (InL tl) D → (∃ W t, TyH w (InL tl) x W ∧ W.number = .int 5 t) → (@Ne Nat bg ul ∧ @Ne Nat bg (L + 1 + 1 + 1 + 1 + 1 + 1) ∧ @Ne Nat bg (L + 1 + 1 + 1 + 1 + 1) ∧ @Ne Nat bg (L + 1 + 1 + 1 + 1) ∧ @Ne Nat bg (L + 1 + 1 + 1) ∧ @Ne Nat bg (L + 1 + 1) ∧ @Ne Nat bg (L + 1) ∧ @Ne Nat ul (L + 1 + 1 + 1 + 1 + 1 + 1) ∧ @Ne Nat ul (L + 1 + 1 + 1 + 1 + 1) ∧ @Ne Nat ul (L + 1 + 1 + 1 + 1) ∧ @Ne Nat ul (L + 1 + 1 + 1) ∧ @Ne Nat ul (L + 1 + 1) ∧ @Ne Nat ul (L + 1)) → Q (.ref r) { s0 with heap := h', toks := tk' }) :
    wpAny (model PySem.Challenge.rw_pb0010_01.row.prog w) (topA dp un gd env []) (call (.ref 223) [.ref bg, .ref x, .ref ul]) Q E { s0 with heap := h, toks := tk } := by
  have obg := offOfLt cbg
  have oD := offOfLt cD
  have ou := offOfLt cul
  have u_x := ou.1
  have u_d := ou.2.1
  have u_op := ou.2.2.1
  have u_D := ou.2.2.2.1
  have u_bg := ou.2.2.2.2.1
  have u_c := ou.2.2.2.2.2
  refine root_use (bag := bg) (used := ul) (scr := D) (ob := ob) (lim := 0) (n := n0) B F X N Tp hf hk hd hu ⟨0, _, Int.le_refl 0, Int.le_refl 0, hod⟩ (by decide) ⟨zs, nD, zns, News.get N (by k_search 3), hz, hzl⟩ oD.1.symm u_D u_bg (by k_search 3) (by k_search 3) ([(L + 1 + 1 + 1 + 1 + 1 + 1, o6), (L + 1 + 1 + 1 + 1 + 1, o5), (L + 1 + 1 + 1 + 1, o4), (L + 1 + 1 + 1, o3), (L + 1 + 1, o2), (L + 1, o1)] ++ [(x, instObj 94 d), (d, dictOf (tyEs w k0 k1 k2 k3 k4 k5 k6 k7 k8 k9 k10 k11 k12 k13 k14 k15 k16 k17 k18 k19 k20 { T with number := .int 5 t5 }) 21), (op, oo), (D, listOf zs.toArray nD)]) ?hr ?ret
  case hr => exact fun p hp => ⟨(by k_search 15 : ∀ q ∈ (L + 1 + 1 + 1 + 1 + 1 + 1, o6) :: (L + 1 + 1 + 1 + 1 + 1, o5) :: (L + 1 + 1 + 1 + 1, o4) :: (L + 1 + 1 + 1, o3) :: (L + 1 + 1, o2) :: (L + 1, o1) :: (x, instObj 94 d) :: (d, dictOf (tyEs w k0 k1 k2 k3 k4 k5 k6 k7 k8 k9 k10 k11 k12 k13 k14 k15 k16 k17 k18 k19 k20 { T with number := .int 5 t5 }) 21) :: (op, oo) :: (D, listOf zs.toArray nD) :: [], q ∈ _) p hp, twoOff (b := bg) (u := ul) (l := (L + 1 + 1 + 1 + 1 + 1 + 1, o6) :: (L + 1 + 1 + 1 + 1 + 1, o5) :: (L + 1 + 1 + 1 + 1, o4) :: (L + 1 + 1 + 1, o3) :: (L + 1 + 1, o2) :: (L + 1, o1) :: (x, instObj 94 d) :: (d, dictOf (tyEs w k0 k1 k2 k3 k4 k5 k6 k7 k8 k9 k10 k11 k12 k13 k14 k15 k16 k17 k18 k19 k20 { T with number := .int 5 t5 }) 21) :: (op, oo) :: (D, listOf zs.toArray nD) :: []) ⟨obg.1, obg.2.1, obg.2.2.1, obg.2.2.2.1, obg.2.2.2.2.1, obg.2.2.2.2.2.1, fx.2.1.symm, fd.2.1.symm, fo.2.1.symm, oD.1.symm, trivial⟩ ⟨u_c.1, u_c.2.1, u_c.2.2.1, u_c.2.2.2.1, u_c.2.2.2.2.1, u_c.2.2.2.2.2.1, u_x, u_d, u_op, u_D, trivial⟩ p hp⟩
  case ret =>
    intro r TT dxs vxs cxs ob' us' xs' n' new h' tk' F' N' ap hb hus hxl hR
    have up : ∀ a o, (a, o) ∈ new → (a, o) ∈ (x, instObj 94 d) :: (d, dictOf (tyEs w k0 k1 k2 k3 k4 k5 k6 k7 k8 k9 k10 k11 k12 k13 k14 k15 k16 k17 k18 k19 k20 { T with number := .int 5 t5 }) 21) :: (op, oo) :: (D, listOf zs.toArray nD) :: new := fun a o e => .tail _ (.tail _ (.tail _ (.tail _ e)))
    have a8 := eightOf (P := fun a => Off1 a new) (ap (bg, ob') (.head _)) (ap (ul, listOf us'.toArray n') (.tail _ (.head _))) (ap (_, o6) (.tail _ (.tail _ (.head _)))) (ap (_, o5) (.tail _ (.tail _ (.tail _ (.head _))))) (ap (_, o4) (.tail _ (.tail _ (.tail _ (.tail _ (.head _)))))) (ap (_, o3) (.tail _ (.tail _ (.tail _ (.tail _ (.tail _ (.head _))))))) (ap (_, o2) (.tail _ (.tail _ (.tail _ (.tail _ (.tail _ (.tail _ (.head _)))))))) (ap (_, o1) (.tail _ (.tail _ (.tail _ (.tail _ (.tail _ (.tail _ (.tail _ (.head _)))))))))
    refine ret r TT dxs vxs cxs ob' us' xs' n' ((x, instObj 94 d) :: (d, dictOf (tyEs w k0 k1 k2 k3 k4 k5 k6 k7 k8 k9 k10 k11 k12 k13 k14 k15 k16 k17 k18 k19 k20 { T with number := .int 5 t5 }) 21) :: (op, oo) :: (D, listOf zs.toArray nD) :: new) h' tk' F' N' (fun a ha => offFour (eightO fx.2 u_x.symm a ha) (eightO fd.2 u_d.symm a ha) (eightO fo.2 u_op.symm a ha) (eightO oD u_D.symm a ha) (a8 a ha)) hb hus hxl ⟨hR.ty.mono up, hR.tagged, hR.num, hR.parent, ?dd, ?cc, hR.var.mono up, hR.nodup, hR.len⟩ ⟨zs, nD, zns, .tail _ (.tail _ (.tail _ (.head _))), hz, hzl⟩ ⟨{ T with number := .int 5 t5 }, t5, ⟨d, _, op, oo, .head _, .tail _ (.head _), ⟨k0, k1, k2, k3, k4, k5, k6, k7, k8, k9, k10, k11, k12, k13, k14, k15, k16, k17, k18, k19, k20, rfl⟩, hoT, .tail _ (.tail _ (.head _)), hdT, hsT.1, hand_num hsT.2⟩, rfl⟩ ⟨u_bg, obg.1.symm, obg.2.1.symm, obg.2.2.1.symm, obg.2.2.2.1.symm, obg.2.2.2.2.1.symm, obg.2.2.2.2.2.1.symm, u_c.1.symm, u_c.2.1.symm, u_c.2.2.1.symm, u_c.2.2.2.1.symm, u_c.2.2.2.2.1.symm, u_c.2.2.2.2.2.1.symm⟩
    case dd =>
      refine byNo fun hno => ?_
      obtain ⟨D', n', dvs, e1, e2, e3⟩ := hR.discs
      refine hno ?_
      clear hno
      exact ⟨D', n', dvs, e1, up _ _ e2, e3.mono up⟩
    case cc =>
      refine byNo fun hno => ?_
      obtain ⟨D', n', dvs, e1, e2, e3⟩ := hR.comps
      refine hno ?_
      clear hno
      exact ⟨D', n', dvs, e1, up _ _ e2, e3.mono up⟩
section

set_option maxHeartbeats 8000000
theorem law_prefix (w : World) (mean mg mb) (dp un : Nat) (gd : Option (List Code)) (f scr0 : Addr) (cd : Value) (A₀ : Around) (h₀ : Heap) (L : Addr) (o1 o2 o3 o4 o5 o6 : Obj) (mR : FMap) (vs : List Value) (ns : List Int) (h : Heap) (tk : Nat) (s0 : Shared) (Q : Flow → Shared → Prop) (E' : Value → Shared → Prop)
    (B : Below A₀ h₀ [] h₀) (X : (hd.heap_1 w.params).In h₀) (Tp : TP mean mg mb h₀) (hd : dp + 200 < recursionLimit) (hu : un + 9800 < cLine) (hsl : h₀.IsList scr0 vs.toArray) (hns : IntsAre vs ns) (hnl : ns.length ≤ 63)
    (F : Fr h₀ L h (fun y => if y = Str.ofString "script" then some (.ref scr0) else mR y)) (N : News h₀ L h [(L + 1 + 1 + 1 + 1 + 1 + 1, o6), (L + 1 + 1 + 1 + 1 + 1, o5), (L + 1 + 1 + 1 + 1, o4), (L + 1 + 1 + 1, o3), (L + 1 + 1, o2), (L + 1, o1)])
    (k1 : o1.data = .cell none) (k2 : o2.data = .cell none) (k3 : o3.data = .cell none) (k4 : o4.data = .cell none) (k5 : o5.data = .cell none) (k6 : o6.data = .cell none)
    (K : ∀ h' tk' m', Fr h₀ L h' m' → Q (.ret (.bool true)) { s0 with heap := h', toks := tk' }) :
    wpAny (model PySem.Challenge.rw_pb0010_01.row.prog w) (topA dp un gd (lawEnv L f cd) []) (execs (funBody lawDef) (lawEnv L f cd)) Q E' { s0 with heap := h, toks := tk } := by
  dsimp only [lawEnv, lawDef, funScope, funBody, PySem.Challenge.pw_pb0010_01, List.getLast?, List.getLast, Option.getD]
  have hvl := hns.length
  focus
    iterate 12 ((try dsimp only); walk1)
    ((try dsimp only); refine' slice_60 (by assumption) (by assumption) ?l ?i ?z ?_ ?s; (case l => exact Heap.IsList.at (by assumption) (fun o e => Fr.keep (by assumption) _ o e)); (case i => assumption); (case z => assumption); (case s => with_unfolding_all rfl); (intro _ _ _ _ _ lt y6; (try replace lt := allLt_of lt); revert lt y6; intro _ _))
    iterate 28 ((try dsimp only); walk1)
    ((try dsimp only); refine int_use (by assumption) (by assumption) (by assumption) (by assumption) (by assumption) rfl rfl (by k_search 2) (by k_search 2) (by first | rfl | assumption) (by first | rfl | assumption) (by first | rfl | assumption) ?_; (intro _ _ _ _ _ _ _ _ _ _ _ _ _ _ _ _ _ _ _ _ _ _ _ _ _ _ _ _ _ _ ofa ofb y32 y33 y34 y35; (have oa1 := ofa.1); (have oa2 := ofa.2.1); (have oa3 := ofa.2.2); (have of1 := ofb.1); (have of2 := ofb.2.1); (have of3 := ofb.2.2); clear ofa ofb; revert y32 y33 y34 y35 oa1 oa2 oa3 of1 of2 of3; intro _ _ _ _ _ _ _ _ _ _))
    iterate 15 ((try dsimp only); walk1)
    (k_unfold; (try dsimp only))
    iterate 28 ((try dsimp only); walk1)
  all_goals (try dsimp only)
  rename Fr _ _ _ _ => F1
  rename News _ _ _ _ => N1
  refine root_from B F1 X N1 Tp rfl rfl (by k_search 2) (by k_search 2) (by assumption) (by assumption) (by rw [List.length_take]; omega) (by assumption) (by assumption) (by assumption) (by assumption) (by assumption) (by assumption) (by assumption) (by assumption) (by assumption) ?_
  clear F1 N1
  intro r TT dxs vxs cxs ob' us' xs' n' tl h' tk' F' N' off hb hus hxl hR hS hW gb
  focus
    ((try dsimp only); walk1)
  all_goals (try dsimp only)
  rename Fr _ _ _ _ => F1
  rename News _ _ _ _ => N1
  refine byNo fun hno => ?_
  obtain ⟨W, tW, hW1, hW2⟩ := hW
  obtain ⟨g0, ga0, ga1, ga2, ga3, ga4, ga5, gb0, gb1, gb2, gb3, gb4, gb5⟩ := gb
  refine hno ?_
  clear hno
  exact law_start w mean mg mb dp un gd f cd A₀ h₀ L _ _ _ _ r _ _ _ _ _ _ ob' _ W TT tW dxs vxs cxs xs' us' n' tl _ _ s0 Q E' B X Tp hd hu hb hus hxl hR hS hW1 hW2 F1 N1 off (by assumption) (by assumption) (by assumption) k4 k5 k6 g0 ga0 ga1 ga2 ga3 ga4 ga5 gb0 gb1 gb2 gb3 gb4 gb5 K
end
section
open PySem PySem.W PyProof.Rows PySem.Calls PySem.Spec PySem.SeqAt PyProof.Rows.LCg
set_option maxRecDepth 100000
set_option maxHeartbeats 8000000
theorem map_one {x : PySem.Str} {v : Value} {m : FMap} (h : m x = some v) : m = fun y => if y = x then some v else m y := by
  funext y
  by_cases e : y = x
  · subst e; rw [if_pos rfl]; exact h
  · rw [if_neg e]
local macro_rules | `(tactic| k_qdec) => `(tactic| decide +kernel)
theorem T : PySem.Challenge.rw_pb0010_01.Holds := hd (by
  k_go0
  (all_goals try k_fold)
  rename Fr _ _ _ _ => F1
  rename Top _ _ _ _ _ _ => T1
  rename Below _ _ _ _ => B1
  rename Heap.IsList _ _ _ => L1
  rename IntsAre _ _ => I1
  rename Frag.In _ _ => X1
  rename ¬ _ < _ => H1
  rename_i q6 q5 q4 q3 q2 q1 N0 X0
  refine law_prefix _ _ _ _ _ _ _ _ _ _ _ _ _ _ _ _ _ _ _ _ _ _ _ _ _ _ _ B1 X1 T1 (by decide) (by decide) L1 I1 (by omega) (Eq.mp (congrArg (Fr _ _ _) (map_one (x := Str.ofString "script") rfl)) F1) N0 q1 q2 q3 q4 q5 q6 ?_
  intro h' tk' m' F2
  clear F1 N0
  k_unfold
  (try dsimp only)
  wrow_close)
end
end Mine
end
end
theorem PySem.Challenge.cw_pb0010_01_holds : PySem.Challenge.rw_pb0010_01.Holds := by
  exact Mine.T
