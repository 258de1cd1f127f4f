import PyProof.Rows.All
import Wide.All
import OpenK.AllK
import Wide.FinOn
import Lean
import PySem.Challenge.RW_sm0017_01
open PySem PySem.W PySem.Spec PySem.Calls PyProof.Rows
set_option Elab.async false
set_option maxRecDepth 100000
set_option Elab.async false
namespace Mine
/-- the text without the statements that leave nothing -/
noncomputable def qv : Program := view PySem.Challenge.pw_sm0017_01 [0, 2, 3, 4, 5, 6, 8, 9, 11, 12, 13, 15, 16, 17, 18, 19, 21, 22, 24, 26, 27, 28, 29, 30]
/-- what is looked at behind the top -/
abbrev lookAll (p q : Program) (loose : List Str) (Xt : Shared → Bool) {α : Type} (Yf : Shared → α) (g0 : Bool) (h₀ : Heap) (s : Shared) :=
  ((staticsOk (importedModules p.main.body) h₀ s.heap && namesBound p s.heap && gensDone s && laidKept h₀ s.heap), openSeen q loose (importedModules p.main.body) Xt g0 s, Yf s)
/-- the head by one run of the top behind the opening -/
theorem left_of {p q : Program} {loose : List Str} {Xt : Shared → Bool} {α : Type} {Yf : Shared → α} {Ya : World → α} {N : Nat} {g0 : Bool} {H₀ : Params → Heap} {gs₀ : Array GenState} {d₀ : Drawn} {k₀ m₀ : Nat} {ann : Option Value}
    (opn : ∀ w : World, (fencedOpening treeTable p w N).map (fun s => (s.heap, s.gens, s.drawn, s.toks)) = some (H₀ w.params, gs₀, d₀, k₀))
    (size : ∀ w : World, ((H₀ w.params).isNs mainGlobals && gs₀.size == 0, (H₀ w.params).objs.size, (H₀ w.params).nsMap mainGlobals "__annotations__") = (true, m₀, ann))
    (run : ∀ (w : World) (os : OsState), (topRun treeTable p w m₀ ann N ⟨H₀ w.params, gs₀, d₀, k₀, os⟩ (topStub p)).map (lookAll p q loose Xt Yf g0 (H₀ w.params)) = some (true, openGood q loose, Ya w)) : LeftO p q loose Xt Yf Ya N g0 := by
  intro w
  have ho := opn w
  cases hf : fencedOpening treeTable p w N with
  | none => rw [hf] at ho; cases ho
  | some s =>
    rw [hf] at ho
    cases s with | mk h gs d k os =>
    cases ho
    have hr := run w os
    have hz := size w
    have z1 := congrArg (·.1) hz
    have z2 := congrArg (·.2.1) hz
    have z3 := congrArg (·.2.2) hz
    dsimp only at z1 z2 z3
    simp only [openEnds, hf, Option.bind_some, topFrom, z1, z2, z3]
    cases ht : topRun treeTable p w m₀ ann N ⟨H₀ w.params, gs, d, k, os⟩ (topStub p) with
    | none => rw [ht] at hr; cases hr
    | some s₁ =>
      rw [ht] at hr
      have hl := Option.some.inj hr
      have l1 := congrArg (·.1) hl
      have l2 := congrArg (·.2.1) hl
      have l3 := congrArg (·.2.2) hl
      dsimp only at l1 l2 l3
      simp only [Option.bind_some, l1, Option.map_some, l2, l3]
end Mine
local macro_rules | `(tactic| o_law) => `(tactic| refine holds_law (by decide +kernel) fun _ => ?_)
set_option hygiene false in
local macro_rules | `(tactic| o_head $H:term) => `(tactic| (
  refine holds_open (q := Mine.qv) (loose := []) (Xt := fun s => xlAt Mine.qv [] s && recOk (RowW.records (OpenRow.toRowW (OpenLaw.row PySem.Challenge.rw_sm0017_01))) s) (XP := XL Mine.qv []) (Yf := Hook.obs $H) (Ya := Hook.val $H) (YP := Hook.says $H) (N := 3322) ?hl (Hook.of $H) (Hook.keeps $H) (fun s e => xl_of s (Bool.and_eq_true_iff.mp e).1) XL.keeps (by rfl) (by rfl) (by rfl) (fun s e => recFacts_of (Bool.and_eq_true_iff.mp e).2) (by rfl) (by first | assumption | decide +kernel) (by decide +kernel) ⟨rfl, rfl, rfl, rfl, rfl, by decide +kernel⟩ ?hw ?hc
  case hl =>
    refine Mine.left_of (boot_open (by kernel_rfl) (by decide) fun s => by kernel_rfl) (m₀ := 11) (ann := some (Value.ref 6)) (fun w => by kernel_rfl) fun w os => ?_
    first
      | (delta Mine.lookAll; rw [PySem.W.Fast.te14082659384304107361, PySem.W.Fast.te14364793385576792824, PySem.W.Fast.te4187177175401517315]; kernel_rfl)
      | kernel_rfl))
namespace Mine
set_option maxRecDepth 100000 in
set_option maxHeartbeats 8000000 in
open_top hd for PySem.Challenge.rw_sm0017_01
end Mine
namespace Mine

noncomputable abbrev KP (w : World) : Frag := Mine.hd.heap_1 w.params

/-- a contract: called with vs over frozen facts R and the ledger give -/
def Spc (prog : Program) (w : World) (K : Frag) (f : Addr) (vs : List Value) (kw : List (Str × Value)) (dp un : Nat) (R : Heap → Prop) (give : List (Addr × Obj)) (Post : Heap → Value → List (Addr × Obj) → Prop) : Prop :=
  ∀ (A : Around) (g : Heap) (s : Shared) (p : Program) (loose : List Str) (mg mb : Str → Option Value) (RR : Result → Shared → Prop),
    A.handled = none → A.depth + dp < recursionLimit → A.units + un < cLine →
    K.In g → TopRead p loose mg mb g → R g → g.objs.size ≤ s.heap.objs.size → (∀ b o, g.get? b = some o → s.heap.get? b = some o) →
    (∀ q ∈ give, s.heap.get? q.1 = some q.2 ∧ g.get? q.1 = none) →
    (∀ r news' h' tk', (∀ b o, g.get? b = some o → h'.get? b = some o) → (∀ q ∈ news', h'.get? q.1 = some q.2 ∧ g.get? q.1 = none) → Post g r news' → RR (.ok (.ret r)) { s with heap := h', toks := tk' }) →
    codeAny (model prog w) A (.call (.ref f) ⟨vs, kw⟩) RR s

/-- a name of a frame and its value -/
abbrev nv (x : Str) (v : Value) : Str × Value := (x, v)

/-- a goal that the walk leaves alone -/
structure Hold (P : Prop) : Prop where
  it : P

theorem sub_tail {α : Type} {a b : List α} {x : α} (h : ∀ q ∈ a, q ∈ b) : ∀ q ∈ a, q ∈ x :: b := fun q hq => .tail _ (h q hq)
theorem sub_self {α : Type} {a : List α} : ∀ q ∈ a, q ∈ a := fun _ h => h
theorem sub_appL {α : Type} {a b c : List α} (h : ∀ q ∈ a, q ∈ b) : ∀ q ∈ a, q ∈ b ++ c := fun q hq => List.mem_append.mpr (.inl (h q hq))
theorem sub_appR {α : Type} {a b c : List α} (h : ∀ q ∈ a, q ∈ c) : ∀ q ∈ a, q ∈ b ++ c := fun q hq => List.mem_append.mpr (.inr (h q hq))
theorem sub_app {α : Type} {a b c : List α} (h : ∀ q ∈ a, q ∈ c) (k : ∀ q ∈ b, q ∈ c) : ∀ q ∈ a ++ b, q ∈ c := fun q hq => (List.mem_append.mp hq).elim (h q) (k q)
theorem in_appL {α : Type} {b c : List α} {q : α} (h : q ∈ b) : q ∈ b ++ c := List.mem_append.mpr (.inl h)
theorem in_appR {α : Type} {b c : List α} {q : α} (h : q ∈ c) : q ∈ b ++ c := List.mem_append.mpr (.inr h)

/-- a continuation behind a name -/
structure OutH (P Q : Flow → Shared → Prop) : Prop where
  it : ∀ fl s', P fl s' → Q fl s'
def Out (Q : Flow → Shared → Prop) (fl : Flow) (s' : Shared) : Prop := Q fl s'
theorem Out.of {P Q : Flow → Shared → Prop} {fl : Flow} {s' : Shared} (h : OutH P Q) (x : P fl s') : Out Q fl s' := h.it _ _ x
theorem OutH.self {P : Flow → Shared → Prop} : OutH P P := ⟨fun _ _ x => x⟩

/-- the end of a body -/
def Done (g : Heap) (L : Addr) (Post : Heap → Value → List (Addr × Obj) → Prop) (s : Shared) (fl : Flow) (s' : Shared) : Prop :=
  ∃ h' tk' m' all, s' = { s with heap := h', toks := tk' } ∧ Fr g L h' m' ∧ News g L h' all ∧ Hold (∃ news', (∀ q ∈ news', q ∈ all) ∧ Post g (match fl with | .ret v => v | _ => .none) news')

section
variable {prog : Program} {w : World} {K : Frag} {f : Addr} {vs : List Value} {kw : List (Str × Value)} {dp un : Nat} {R : Heap → Prop} {give : List (Addr × Obj)} {Post : Heap → Value → List (Addr × Obj) → Prop}
  {name qual : Str} {params : Arguments} {body : List Stmt} {scope : Scope} {dV kV doc pm cdv ct oc : Value} {an od : Option Addr} {osl : Array (Option Value)} {binds : List (Str × Value)}

theorem Spc.intro (ho : K.lookup f = some ⟨oc, od, .func (fnOf name qual params body scope dV kV doc pm an cdv ct), osl⟩) (hcd : codeIn K cdv qual = true)
    (hbind : ∀ s, BindsTo s (fnOf name qual params body scope dV kV doc pm an cdv ct) ⟨vs, kw⟩ binds) (hloc : ∀ y ∈ binds, scope.names.lookup y.1 = some .local)
    (h : ∀ (A : Around) (g : Heap) (L : Addr) (h₁ : Heap) (s : Shared) (tk : Nat) (p : Program) (loose : List Str) (mg mb : Str → Option Value) (QF : Flow → Shared → Prop), OutH (Done g L Post s) QF →
      A.handled = none → A.depth + dp < recursionLimit → A.units + un < cLine → Fr g L h₁ (fun y => binds.reverse.lookup y) → News g L h₁ give → (∀ q ∈ give, q.1 < L) → K.In g → TopRead p loose mg mb g → R g →
      wpAny (model prog w) A (execs body (envOf qual scope L f cdv)) (Out QF) (fun _ _ => False) { s with heap := h₁, toks := tk })
    (hco : scope.isCoroutine = false := by rfl) (hgen : scope.isGenerator = false := by rfl) (hk : scope.kind = .function := by rfl)
    (hcell : ∀ x ∈ scope.names, x.2 ≠ .cell := by decide) : Spc prog w K f vs kw (dp + 1) (un + 3) R give Post := by
  intro A g s p loose mg mb RR hh hd hu X T hR hsz hk1 hgive ret
  refine codeAny_call_def (fd := fnOf name qual params body scope dV kV doc pm an cdv ct) (body := body) (binds := binds) (by omega) (hk1 _ _ (X _ _ ho)) rfl (T.nolimit.keeps hk1) ((codeRec_of X hcd).keeps hk1) rfl (hbind _) hcell hloc (fun h₁ hns hk₁ => ?_) hco hgen hk
  refine wpAny_mono (h (A.deeper (envOf qual scope s.heap.objs.size f cdv)) g s.heap.objs.size h₁ s _ p loose mg mb _ .self hh (by rw [depth_deeper]; omega) (by rw [units_deeper]; omega)
    ⟨hns, fun b o e => hk₁ b o (hk1 b o e), hsz⟩ (fun q hq => ⟨hk₁ _ _ (hgive q hq).1, Nat.ne_of_lt (Heap.lt_size (hgive q hq).1), (hgive q hq).2⟩) (fun q hq => Heap.lt_size (hgive q hq).1) X T hR) (fun fl s' hl => ?_) fun _ _ x => x.elim
  obtain ⟨h', tk', m', all, rfl, F', N', ⟨news', hs, hP⟩⟩ := hl
  exact ret _ news' h' tk' F'.keep (fun q hq => ⟨(N' q (hs q hq)).1, (N' q (hs q hq)).2.2⟩) hP

theorem Spc.use {A : Around} {h₀ : Heap} {L : Addr} {m : Str → Option Value} {news : List (Addr × Obj)} {s : Shared} {p : Program} {loose : List Str} {mg mb : Str → Option Value} {RR : Result → Shared → Prop}
    (C : Spc prog w K f vs kw dp un R give Post) (hh : A.handled = none) (hd : A.depth + dp < recursionLimit) (hu : A.units + un < cLine)
    (F : Fr h₀ L s.heap m) (N : News h₀ L s.heap news) (X : K.In h₀) (T : TopRead p loose mg mb h₀) (keepl : List (Addr × Obj)) (hgive : ∀ q ∈ give, q ∈ news) (hkeep : ∀ q ∈ keepl, q ∈ news) (hoff : ∀ q ∈ keepl, ∀ q' ∈ give, q.1 ≠ q'.1)
    (hR : ∀ g : Heap, h₀.StaysIn g → (∀ q ∈ keepl, g.get? q.1 = some q.2) → R g)
    (ret : ∀ g r news' h' tk', h₀.StaysIn g → (∀ q ∈ keepl, g.get? q.1 = some q.2) → Fr h₀ L h' m → News h₀ L h' (news' ++ keepl) → (∀ q ∈ news', g.get? q.1 = none) → (∀ q ∈ news', ∀ q' ∈ keepl, q.1 ≠ q'.1) → Post g r news' → RR (.ok (.ret r)) { s with heap := h', toks := tk' }) :
    codeAny (model prog w) A (.call (.ref f) ⟨vs, kw⟩) RR s := by
  have nm : ∀ b o, h₀.get? b = some o → b ∉ give.map (·.1) := fun b o e q => by
    obtain ⟨p, hp, rfl⟩ := List.mem_map.mp q
    rw [(N p (hgive p hp)).2.2] at e; cases e
  have st : h₀.StaysIn (hideAll s.heap (give.map (·.1))) := fun b o e => hideAll_get _ (F.keep b o e) (nm b o e)
  obtain ⟨oL, es, ep, hL, hLd, hLk, hLf⟩ := F.ns
  have nL : L ∉ give.map (·.1) := fun q => by
    obtain ⟨p, hp, e⟩ := List.mem_map.mp q
    exact (N p (hgive p hp)).2.1 e
  have hLg := hideAll_get (give.map (·.1)) hL nL
  have hK : ∀ q ∈ keepl, (hideAll s.heap (give.map (·.1))).get? q.1 = some q.2 := fun q hq => hideAll_get _ (N q (hkeep q hq)).1 fun e => by
    obtain ⟨p, hp, e'⟩ := List.mem_map.mp e
    exact hoff q hq p hp e'.symm
  refine C A (hideAll s.heap (give.map (·.1))) s p loose mg mb RR hh hd hu (X.keeps fun b o e => st b o e) (T.keeps fun b o e => st b o e) (hR _ st hK) (Nat.le_of_eq (hideAll_size _ _)) (fun b o e => of_hideAll _ e) (fun q hq => ⟨(N q (hgive q hq)).1, hideAll_none _ (List.mem_map_of_mem hq)⟩) ?_
  intro r news' h' tk' k1 k2 hP
  have off : ∀ q ∈ news', ∀ q' ∈ keepl, q.1 ≠ q'.1 := fun q hq q' hq' e => by
    have := (k2 q hq).2; rw [e, hK q' hq'] at this; cases this
  refine ret _ r news' h' tk' st hK ⟨⟨oL, es, ep, k1 L oL hLg, hLd, hLk, hLf⟩, fun b o e => k1 b o (st b o e), F.above⟩ (fun q hq => ?_) (fun q hq => (k2 q hq).2) off hP
  rcases List.mem_append.mp hq with hq | hq
  · refine ⟨(k2 q hq).1, fun e => ?_, ?_⟩
    · have := (k2 q hq).2; rw [e, hLg] at this; cases this
    · cases e : h₀.get? q.1 with
      | none => rfl
      | some o => have := (k2 q hq).2; rw [st _ _ e] at this; cases this
  · have z := N q (hkeep q hq)
    exact ⟨k1 _ _ (hK q hq), z.2⟩

theorem Spc.weaken {dp' un' : Nat} (C : Spc prog w K f vs kw dp un R give Post) (hd : dp ≤ dp') (hu : un ≤ un') : Spc prog w K f vs kw dp' un' R give Post :=
  fun A g s p loose mg mb RR hh h1 h2 => C A g s p loose mg mb RR hh (by omega) (by omega)
theorem Spc.post {Post' : Heap → Value → List (Addr × Obj) → Prop} (C : Spc prog w K f vs kw dp un R give Post) (h : ∀ g r nw, Post g r nw → Post' g r nw) : Spc prog w K f vs kw dp un R give Post' :=
  fun A g s p loose mg mb RR hh h1 h2 X T hR hs hk hg ret => C A g s p loose mg mb RR hh h1 h2 X T hR hs hk hg fun r nw h' tk' k1 k2 hP => ret r nw h' tk' k1 k2 (h _ _ _ hP)
/-- a contract at a call -/
theorem Spc.call {A : Around} {h₀ : Heap} {L : Addr} {m : Str → Option Value} {news : List (Addr × Obj)} {s : Shared} {p : Program} {loose : List Str} {mg mb : Str → Option Value} {Q E : Value → Shared → Prop}
    (C : Spc prog w K f vs [] dp un R give Post) (hh : A.handled = none) (hd : A.depth + dp < recursionLimit) (hu : A.units + un < cLine)
    (F : Fr h₀ L s.heap m) (N : News h₀ L s.heap news) (X : K.In h₀) (T : TopRead p loose mg mb h₀) (keepl : List (Addr × Obj)) (hgive : ∀ q ∈ give, q ∈ news) (hkeep : ∀ q ∈ keepl, q ∈ news) (hoff : ∀ q ∈ keepl, ∀ q' ∈ give, q.1 ≠ q'.1)
    (hR : ∀ g : Heap, h₀.StaysIn g → (∀ q ∈ keepl, g.get? q.1 = some q.2) → R g)
    (ret : ∀ g r news' h' tk', h₀.StaysIn g → (∀ q ∈ keepl, g.get? q.1 = some q.2) → Fr h₀ L h' m → News h₀ L h' (news' ++ keepl) → (∀ q ∈ news', g.get? q.1 = none) → (∀ q ∈ news', ∀ q' ∈ keepl, q.1 ≠ q'.1) → Post g r news' → Q r { s with heap := h', toks := tk' }) :
    wpAny (model prog w) A (PySem.call (.ref f) vs) Q E s :=
  wpAny_call (Spc.use C hh hd hu F N X T keepl hgive hkeep hoff hR ret)
end
end Mine
namespace Mine

theorem kstB_bind {u : Str → Option Value} {m : Str → Option Value} : ∀ {ps : List (Str × Value)}, (∀ p ∈ ps, m p.1 = some p.2) → (u = m) → kstB u ps = m
  | ps, h, rfl => by
    funext z
    exact kstB_eq h fun _ => rfl

theorem News.sub {h₀ h : Heap} {L : Addr} {a b : List (Addr × Obj)} (N : News h₀ L h a) (hs : ∀ p ∈ b, p ∈ a) : News h₀ L h b := fun p hp => N p (hs p hp)

/-- the end of a turn of a for -/
def TEnd (h₀ : Heap) (L : Addr) (icls : Value) (own : List (Addr × Obj)) (J : List (Str × Value) → List (Addr × Obj) → Prop) (s₁ s₂ : Shared) : Prop :=
  ∃ h' tk m' ps led all, s₂ = { s₁ with heap := h', toks := tk } ∧ Fr h₀ L h' m' ∧ News h₀ L h' all ∧ (∀ p ∈ led, p ∈ all) ∧ (∀ p ∈ own, p ∈ all) ∧ (∀ p ∈ led, p.2.cls ≠ icls ∨ ∀ q ∈ own, q.1 ≠ p.1) ∧ (∀ p ∈ ps, m' p.1 = some p.2) ∧ J ps led
def TPost (h₀ : Heap) (L : Addr) (icls : Value) (own : List (Addr × Obj)) (J : List (Str × Value) → List (Addr × Obj) → Prop) (s₁ : Shared) (Q : Flow → Shared → Prop) (f : Flow) (s₂ : Shared) : Prop :=
  match f with
  | .ret v => Q (.ret v) s₂
  | .brk => Q .next s₂
  | _ => Hold (TEnd h₀ L icls own J s₁ s₂)
theorem TEnd.of {h₀ : Heap} {L : Addr} {icls : Value} {own : List (Addr × Obj)} {J : List (Str × Value) → List (Addr × Obj) → Prop} {s₁ : Shared} {h' : Heap} {tk : Nat} {m' : Str → Option Value} {ps : List (Str × Value)} {led all : List (Addr × Obj)}
    (F : Fr h₀ L h' m') (N : News h₀ L h' all) (hJ : J ps led) (hps : ∀ p ∈ ps, m' p.1 = some p.2) (hl : ∀ p ∈ led, p ∈ all) (ho : ∀ p ∈ own, p ∈ all) (hc : ∀ p ∈ led, p.2.cls ≠ icls) : Hold (TEnd h₀ L icls own J s₁ { s₁ with heap := h', toks := tk }) :=
  ⟨h', tk, m', ps, led, all, rfl, F, N, hl, ho, fun p hp => .inl (hc p hp), hps, hJ⟩
theorem TEnd.off {h₀ : Heap} {L : Addr} {icls : Value} {own : List (Addr × Obj)} {J : List (Str × Value) → List (Addr × Obj) → Prop} {s₁ : Shared} {h' : Heap} {tk : Nat} {m' : Str → Option Value} {ps : List (Str × Value)} {led all : List (Addr × Obj)}
    (F : Fr h₀ L h' m') (N : News h₀ L h' all) (hJ : J ps led) (hps : ∀ p ∈ ps, m' p.1 = some p.2) (hl : ∀ p ∈ led, p ∈ all) (ho : ∀ p ∈ own, p ∈ all) (hc : ∀ p ∈ led, p.2.cls ≠ icls ∨ ∀ q ∈ own, q.1 ≠ p.1) : Hold (TEnd h₀ L icls own J s₁ { s₁ with heap := h', toks := tk }) :=
  ⟨h', tk, m', ps, led, all, rfl, F, N, hl, ho, hc, hps, hJ⟩
/-- the end of a turn of a while -/
def WEnd (h₀ : Heap) (L : Addr) (s : Shared) (J : Nat → List (Str × Value) → List (Addr × Obj) → Prop) (n : Nat) (s₂ : Shared) : Prop :=
  ∃ h' tk m' ps led all n', s₂ = { s with heap := h', toks := tk } ∧ Fr h₀ L h' m' ∧ News h₀ L h' all ∧ (∀ p ∈ led, p ∈ all) ∧ (∀ p ∈ ps, m' p.1 = some p.2) ∧ n' < n ∧ J n' ps led
theorem WEnd.of {h₀ : Heap} {L : Addr} {J : Nat → List (Str × Value) → List (Addr × Obj) → Prop} {n n' : Nat} {s : Shared} {h' : Heap} {tk : Nat} {m' : Str → Option Value} {ps : List (Str × Value)} {led all : List (Addr × Obj)}
    (F : Fr h₀ L h' m') (N : News h₀ L h' all) (hJ : J n' ps led) (hn : n' < n) (hps : ∀ p ∈ ps, m' p.1 = some p.2) (hl : ∀ p ∈ led, p ∈ all) : Hold (WEnd h₀ L s J n { s with heap := h', toks := tk }) :=
  ⟨h', tk, m', ps, led, all, n', rfl, F, N, hl, hps, hn, hJ⟩
def WPost (h₀ : Heap) (L : Addr) (s : Shared) (J : Nat → List (Str × Value) → List (Addr × Obj) → Prop) (Q : Flow → Shared → Prop) (n : Nat) (f : Flow) (s₂ : Shared) : Prop :=
  match f with
  | .ret v => Q (.ret v) s₂
  | .brk => Q .next s₂
  | _ => Hold (WEnd h₀ L s J n s₂)

section
variable {prog : Program} {w : World} {A : Around} {E : Value → Shared → Prop} {s : Shared} {env : Env} {h₀ : Heap} {x : Str} {body : List Stmt} {Q : Flow → Shared → Prop} {m₀ : Str → Option Value} {news : List (Addr × Obj)}

theorem loop_core {s₂ : Shared} {I : Addr} {fp : List Addr} {n : Nat} {P : Nat → Value → Prop} {St : Nat → Heap → Prop} {icls : Value}
    (W : Walks prog w A I fp [I] n P St) (hL : env.locals ∉ fp) (hIf : I ∈ fp) (hI0 : h₀.get? I = none) (hst : St 0 s₂.heap) (hcls : ∀ i h o, St i h → h.get? I = some o → o.cls = icls)
    (hIx : ∀ i h, St i h → ∃ o, h.get? I = some o)
    (F : Fr h₀ env.locals s₂.heap m₀) (J : Nat → List (Str × Value) → List (Addr × Obj) → Prop) (ps₀ : List (Str × Value)) (led₀ : List (Addr × Obj))
    (hps : ∀ p ∈ ps₀, m₀ p.1 = some p.2) (N : News h₀ env.locals s₂.heap led₀) (hoff : ∀ p ∈ led₀, p.1 ≠ I) (h0 : J 0 ps₀ led₀)
    (turn : ∀ i v ps led u h tk own, i < n → P i v → J i ps led → Fr h₀ env.locals h (fun y => if y = x then some v else kstB u ps y) → News h₀ env.locals h (led ++ own) →
      (∀ p ∈ own, p.1 = I ∨ p.1 ∈ fp) → (∀ q ∈ led, q.1 ≠ I) → (∀ p ∈ own, p.1 = I → p.2.cls = icls) →
      wpAny (model prog w) A (execs body env) (TPost h₀ env.locals icls own (J (i + 1)) { s₂ with heap := h, toks := tk } Q) E { s₂ with heap := h, toks := tk })
    (done : ∀ ps led u h tk, J n ps led → Fr h₀ env.locals h (kstB u ps) → News h₀ env.locals h led → Q .next { s₂ with heap := h, toks := tk }) :
    LoopAtV prog w A h₀ env x body Q E (.ref I) s₂ := by
  refine ⟨I, fp, [I], n, P, St, m₀, led₀, fun i m₁ news₁ => ∃ ps, (∀ p ∈ ps, m₁ p.1 = some p.2) ∧ J i ps news₁, rfl, W, hL, ?_, ?_, hst, F, N, ⟨ps₀, hps, h0⟩, ?_, ?_⟩
  · intro b hb; rw [List.mem_singleton.mp hb]; exact hI0
  · intro p hp hb; exact hoff p hp (List.mem_singleton.mp hb)
  · rintro i v m₁ news₁ s₁ own ⟨h, tk, rfl⟩ hi hP ⟨ps, hb, hJ⟩ hnw hown hget hall hst₁ F₁ N₁
    obtain ⟨oI, hoI⟩ := hIx _ _ hst₁
    have hcI := hcls _ _ _ hst₁ hoI
    have hmI := hall I hIf hI0 oI hoI
    have F₂ : Fr h₀ env.locals h (fun y => if y = x then some v else kstB m₁ ps y) := by rw [kstB_bind hb rfl]; exact F₁
    refine wpAny_mono (turn i v ps news₁ m₁ h tk own hi hP hJ F₂ (News.sub N₁ fun p hp => by rcases List.mem_append.mp hp with hp | hp; exact List.mem_append_right _ hp; exact List.mem_append_left _ hp) (fun p hp => .inr (hown p hp)) (fun q hq e => hnw q hq (List.mem_singleton.mpr e)) (fun p hp e => by
      have := hget p hp
      rw [e] at this
      exact hcls _ _ _ hst₁ this)) (fun f s₃ p => ?_) fun _ _ e => e
    have fin : Hold (TEnd h₀ env.locals icls own (J (i + 1)) { s₂ with heap := h, toks := tk } s₃) → LoopStepU h₀ env.locals [I] own (fun m₁ news₁ => ∃ ps, (∀ p ∈ ps, m₁ p.1 = some p.2) ∧ J (i + 1) ps news₁) { s₂ with heap := h, toks := tk } .next s₃ := by
      rintro ⟨h', tk', m', ps', led', all, e, F', N', hl, ho, hc, hb', hJ'⟩
      refine ⟨rfl, h', tk', m', led', e, F', News.sub N' fun p hp => (List.mem_append.mp hp).elim (ho p) (hl p), fun p hp hI => ?_, ps', hb', hJ'⟩
      have h1 := (N' p (hl p hp)).1
      have h2 := (N' _ (ho _ hmI)).1
      rw [List.mem_singleton.mp hI, h2] at h1
      rcases hc p hp with hc | hc
      · exact hc (by rw [← Option.some.inj h1]; exact hcI)
      · exact hc _ hmI (List.mem_singleton.mp hI).symm
    cases f with
    | ret v => exact .ret p
    | brk => exact .brk p
    | next => exact .next (fin p)
    | cont => exact .cont (fin p)
  · rintro h' tk m' news' F' N' _ ⟨ps, hb, hJ⟩
    exact done ps news' m' h' tk hJ (by rw [kstB_bind hb rfl]; exact F') N'

theorem loop_list {l : Addr} {its : Array Value} (hh : A.handled = none) (F : Fr h₀ env.locals s.heap m₀) (N : News h₀ env.locals s.heap news) (hl : s.heap.IsList l its) (hlL : l ≠ env.locals)
    (J : Nat → List (Str × Value) → List (Addr × Obj) → Prop) (ps₀ : List (Str × Value)) (led₀ : List (Addr × Obj)) (hps : ∀ p ∈ ps₀, m₀ p.1 = some p.2) (hled : ∀ p ∈ led₀, p ∈ news) (h0 : J 0 ps₀ led₀)
    (turn : ∀ i v ps led u h tk own, its[i]? = some v → J i ps led → Fr h₀ env.locals h (fun y => if y = x then some v else kstB u ps y) → News h₀ env.locals h (led ++ own) → (∀ q ∈ led, q.1 ≠ l → ∀ p ∈ own, p.1 ≠ q.1) →
      wpAny (model prog w) A (execs body env) (TPost h₀ env.locals (.type "list_iterator") own (J (i + 1)) { s with heap := h, toks := tk } Q) E { s with heap := h, toks := tk })
    (done : ∀ ps led u h tk, J its.size ps led → Fr h₀ env.locals h (kstB u ps) → News h₀ env.locals h led → Q .next { s with heap := h, toks := tk }) :
    wpAny (model prog w) A (pyIter (.ref l)) (fun it s₂ => LoopAtV prog w A h₀ env x body Q E it s₂) E s := by
  refine wpAny_pyIter_list hl ?_
  obtain ⟨ol, hol, _⟩ := id hl
  have hne : l ≠ s.heap.objs.size := Nat.ne_of_lt (Heap.lt_size hol)
  refine loop_core (icls := .type "list_iterator") (s₂ := { s with heap := s.heap.push { cls := .type "list_iterator", data := .fields #[.ref l, .int 0 0] } }) (Walks.list (prog := prog) (w := w) hh s.heap.objs.size l hne its) ?_ (by simp) (next_is_new F) ⟨⟨_, Heap.get?_push_size _ rfl, rfl, rfl⟩, hl.at fun o e => Heap.get?_push_of_some _ e⟩
    ?_ ?_ (F.push _) J ps₀ led₀ hps (fun p hp => ⟨Heap.get?_push_of_some _ (N p (hled p hp)).1, (N p (hled p hp)).2⟩) (fun p hp => Nat.ne_of_lt (Heap.lt_size (N p (hled p hp)).1)) h0 ?_ ?_
  · intro hm
    rcases List.mem_cons.mp hm with e | hm
    · exact absurd F.ns.lt (e ▸ Nat.lt_irrefl _)
    · exact hlL (List.mem_singleton.mp hm).symm
  · rintro i h o ⟨⟨o', h1, h2, _⟩, _⟩ e
    rw [h1] at e; exact Option.some.inj e ▸ h2
  · rintro i h ⟨⟨o', h1, _⟩, _⟩
    exact ⟨o', h1⟩
  · intro i v ps led u h tk own _ hP hJ F₁ N₁ ho hI _
    refine turn i v ps led u h tk own hP hJ F₁ N₁ fun q hq hql p hp e => ?_
    rcases ho p hp with h1 | h1
    · exact hI q hq (e.symm.trans h1)
    · rcases List.mem_cons.mp h1 with h1 | h1
      · exact hI q hq (e.symm.trans h1)
      · exact hql (e.symm.trans (List.mem_singleton.mp h1))
  · intro ps led u h tk hJ F₁ N₁
    exact done ps led u h tk hJ F₁ N₁

theorem loop_tuple {l : Addr} {its : Array Value} (hh : A.handled = none) (F : Fr h₀ env.locals s.heap m₀) (N : News h₀ env.locals s.heap news) (hl : s.heap.IsTuple l its) (hlL : l ≠ env.locals)
    (J : Nat → List (Str × Value) → List (Addr × Obj) → Prop) (ps₀ : List (Str × Value)) (led₀ : List (Addr × Obj)) (hps : ∀ p ∈ ps₀, m₀ p.1 = some p.2) (hled : ∀ p ∈ led₀, p ∈ news) (h0 : J 0 ps₀ led₀)
    (turn : ∀ i v ps led u h tk own, its[i]? = some v → J i ps led → Fr h₀ env.locals h (fun y => if y = x then some v else kstB u ps y) → News h₀ env.locals h (led ++ own) → (∀ q ∈ led, q.1 ≠ l → ∀ p ∈ own, p.1 ≠ q.1) →
      wpAny (model prog w) A (execs body env) (TPost h₀ env.locals (.type "tuple_iterator") own (J (i + 1)) { s with heap := h, toks := tk } Q) E { s with heap := h, toks := tk })
    (done : ∀ ps led u h tk, J its.size ps led → Fr h₀ env.locals h (kstB u ps) → News h₀ env.locals h led → Q .next { s with heap := h, toks := tk }) :
    wpAny (model prog w) A (pyIter (.ref l)) (fun it s₂ => LoopAtV prog w A h₀ env x body Q E it s₂) E s := by
  refine wpAny_pyIter_tuple hl ?_
  obtain ⟨ol, hol, _⟩ := id hl
  have hne : l ≠ s.heap.objs.size := Nat.ne_of_lt (Heap.lt_size hol)
  refine loop_core (icls := .type "tuple_iterator") (s₂ := { s with heap := s.heap.push { cls := .type "tuple_iterator", data := .fields #[.ref l, .int 0 0] } }) (Walks.tuple (prog := prog) (w := w) hh s.heap.objs.size l hne its) ?_ (by simp) (next_is_new F) ⟨⟨_, Heap.get?_push_size _ rfl, rfl, rfl⟩, hl.at fun o e => Heap.get?_push_of_some _ e⟩
    ?_ ?_ (F.push _) J ps₀ led₀ hps (fun p hp => ⟨Heap.get?_push_of_some _ (N p (hled p hp)).1, (N p (hled p hp)).2⟩) (fun p hp => Nat.ne_of_lt (Heap.lt_size (N p (hled p hp)).1)) h0 ?_ ?_
  · intro hm
    rcases List.mem_cons.mp hm with e | hm
    · exact absurd F.ns.lt (e ▸ Nat.lt_irrefl _)
    · exact hlL (List.mem_singleton.mp hm).symm
  · rintro i h o ⟨⟨o', h1, h2, _⟩, _⟩ e
    rw [h1] at e; exact Option.some.inj e ▸ h2
  · rintro i h ⟨⟨o', h1, _⟩, _⟩
    exact ⟨o', h1⟩
  · intro i v ps led u h tk own _ hP hJ F₁ N₁ ho hI _
    refine turn i v ps led u h tk own hP hJ F₁ N₁ fun q hq hql p hp e => ?_
    rcases ho p hp with h1 | h1
    · exact hI q hq (e.symm.trans h1)
    · rcases List.mem_cons.mp h1 with h1 | h1
      · exact hI q hq (e.symm.trans h1)
      · exact hql (e.symm.trans (List.mem_singleton.mp h1))
  · intro ps led u h tk hJ F₁ N₁
    exact done ps led u h tk hJ F₁ N₁

theorem loop_range {r : Addr} {a₀ b₀ : Int} {t₀ u₀ v₀ : Tok} {n : Nat} (hh : A.handled = none) (F : Fr h₀ env.locals s.heap m₀) (N : News h₀ env.locals s.heap news) (hr : IsRange s.heap r a₀ b₀ 1 t₀ u₀ v₀) (hsmall : Builtin.Range.small a₀ b₀ 1 = true) (hn : Builtin.Range.rangeSize a₀ b₀ 1 = (n : Int))
    (J : Nat → List (Str × Value) → List (Addr × Obj) → Prop) (ps₀ : List (Str × Value)) (led₀ : List (Addr × Obj)) (hps : ∀ p ∈ ps₀, m₀ p.1 = some p.2) (hled : ∀ p ∈ led₀, p ∈ news) (h0 : J 0 ps₀ led₀)
    (turn : ∀ i t ps led u h tk own, i < n → J i ps led → Fr h₀ env.locals h (fun y => if y = x then some (.int (a₀ + (i : Int)) t) else kstB u ps y) → News h₀ env.locals h (led ++ own) → (∀ q ∈ led, ∀ p ∈ own, p.1 ≠ q.1) → (∀ p ∈ own, p.2.cls = .type "range_iterator") →
      wpAny (model prog w) A (execs body env) (TPost h₀ env.locals (.type "range_iterator") own (J (i + 1)) { s with heap := h, toks := tk } Q) E { s with heap := h, toks := tk })
    (done : ∀ ps led u h tk, J n ps led → Fr h₀ env.locals h (kstB u ps) → News h₀ env.locals h led → Q .next { s with heap := h, toks := tk }) :
    wpAny (model prog w) A (pyIter (.ref r)) (fun it s₂ => LoopAtV prog w A h₀ env x body Q E it s₂) E s := by
  refine wpAny_pyIter_range hr hsmall ?_
  refine loop_core (icls := .type "range_iterator") (Walks.range (prog := prog) (w := w) hh s.heap.objs.size a₀ 1 n) ?_ (by simp) (next_is_new F) (by show IsRangeIter _ _ _ _ _; rw [hn]; simpa using Heap.get?_push_size _ rfl)
    ?_ ?_ (F.push _) J ps₀ led₀ hps (fun p hp => ⟨Heap.get?_push_of_some _ (N p (hled p hp)).1, (N p (hled p hp)).2⟩) (fun p hp => Nat.ne_of_lt (Heap.lt_size (N p (hled p hp)).1)) h0 ?_ ?_
  · intro hm
    exact absurd F.ns.lt ((List.mem_singleton.mp hm) ▸ Nat.lt_irrefl _)
  · rintro i h o h1 e
    have h1' : h.get? s.heap.objs.size = _ := h1
    rw [h1'] at e; exact Option.some.inj e ▸ rfl
  · rintro i h h1
    exact ⟨_, h1⟩
  · rintro i v ps led u h tk own hi ⟨t, rfl⟩ hJ F₁ N₁ ho hI hcl
    rw [Int.mul_one] at F₁
    refine turn i t ps led u h tk own hi hJ F₁ N₁ (fun q hq p hp e => ?_) fun p hp => hcl p hp ((ho p hp).elim id List.mem_singleton.mp)
    rcases ho p hp with h1 | h1
    · exact hI q hq (e.symm.trans h1)
    · exact hI q hq (e.symm.trans (List.mem_singleton.mp h1))
  · intro ps led u h tk hJ F₁ N₁
    exact done ps led u h tk hJ F₁ N₁

theorem loop_while {test : Expr} {pos : Pos} {L : Addr} (F : Fr h₀ L s.heap m₀) (N : News h₀ L s.heap news) (J : Nat → List (Str × Value) → List (Addr × Obj) → Prop) (n₀ : Nat) (ps₀ : List (Str × Value)) (led₀ : List (Addr × Obj))
    (hps : ∀ p ∈ ps₀, m₀ p.1 = some p.2) (hled : ∀ p ∈ led₀, p ∈ news) (h0 : J n₀ ps₀ led₀)
    (turn : ∀ n ps led u h tk (TQ : Flow → Shared → Prop), OutH (WPost h₀ L s J Q n) TQ → J n ps led → Fr h₀ L h (kstB u ps) → News h₀ L h led →
      wpAny (model prog w) A (isTrue test env (eval test env)) (fun b s₂ =>
        if b = true then wpAny (model prog w) A (execs body env) (Out TQ) (fun _ _ => False) s₂ else Q .next s₂) (fun _ _ => False) { s with heap := h, toks := tk }) :
    wpAny (model prog w) A (exec (.While test body [] pos) env) Q E s := by
  refine wpAny_noRaise (While_inv2 (fun n m nx => ∃ ps, (∀ p ∈ ps, m p.1 = some p.2) ∧ J n ps nx) F (News.sub N hled) ⟨ps₀, hps, h0⟩ ?_ (by passes_own))
  rintro n m₁ nx h tk F₁ N₁ ⟨ps, hb, hJ⟩
  refine wpAny_mono (turn n ps nx m₁ h tk _ .self hJ (by rw [kstB_bind hb rfl]; exact F₁) N₁) (fun b s₂ p => ?_) fun _ _ x => x
  cases b with
  | false => simpa using p
  | true =>
    simp only [if_true] at p ⊢
    refine wpAny_mono p (fun f s₃ q => ?_) fun _ _ x => x
    replace q : WPost h₀ L s J Q n f s₃ := q
    cases f with
    | ret v => exact q
    | brk => exact q
    | next =>
      obtain ⟨h', tk', m', ps', led', all, n', e, F', N', hl, hb', hn, hJ'⟩ := q.it
      exact ⟨h', tk', m', led', n', e, F', News.sub N' hl, hn, ps', hb', hJ'⟩
    | cont =>
      obtain ⟨h', tk', m', ps', led', all, n', e, F', N', hl, hb', hn, hJ'⟩ := q.it
      exact ⟨h', tk', m', led', n', e, F', News.sub N' hl, hn, ps', hb', hJ'⟩
end
section
variable {prog : Program} {w : World} {A : Around} {E : Value → Shared → Prop} {s : Shared} {env : Env} {h₀ : Heap} {x : Str} {body : List Stmt} {Q : Flow → Shared → Prop} {m₀ : Str → Option Value} {news : List (Addr × Obj)} {L : Addr}
theorem for_list {l : Addr} {its : Array Value} (hh : A.handled = none) (F : Fr h₀ L s.heap m₀) (N : News h₀ L s.heap news) (hl : s.heap.IsList l its) (hlL : l ≠ L)
    (J : Nat → List (Str × Value) → List (Addr × Obj) → Prop) (ps₀ : List (Str × Value)) (led₀ : List (Addr × Obj)) (hps : ∀ p ∈ ps₀, m₀ p.1 = some p.2) (hled : ∀ p ∈ led₀, p ∈ news) (h0 : J 0 ps₀ led₀)
    (turn : ∀ i v ps led u h tk own (TQ : Flow → Shared → Prop), OutH (TPost h₀ L (.type "list_iterator") own (J (i + 1)) { s with heap := h, toks := tk } Q) TQ → its[i]? = some v → J i ps led → Fr h₀ L h (fun y => if y = x then some v else kstB u ps y) → News h₀ L h (led ++ own) → (∀ q ∈ led, q.1 ≠ l → ∀ p ∈ own, p.1 ≠ q.1) →
      wpAny (model prog w) A (execs body env) (Out TQ) E { s with heap := h, toks := tk })
    (done : ∀ ps led u h tk, J its.size ps led → Fr h₀ L h (kstB u ps) → News h₀ L h led → Q .next { s with heap := h, toks := tk }) (hL : env.locals = L := by rfl) :
    wpAny (model prog w) A (pyIter (.ref l)) (fun it s₂ => LoopAtV prog w A h₀ env x body Q E it s₂) E s := by
  subst hL
  exact loop_list hh F N hl hlL J ps₀ led₀ hps hled h0 (fun i v ps led u h tk own => turn i v ps led u h tk own _ .self) done
theorem for_tuple {l : Addr} {its : Array Value} (hh : A.handled = none) (F : Fr h₀ L s.heap m₀) (N : News h₀ L s.heap news) (hl : s.heap.IsTuple l its) (hlL : l ≠ L)
    (J : Nat → List (Str × Value) → List (Addr × Obj) → Prop) (ps₀ : List (Str × Value)) (led₀ : List (Addr × Obj)) (hps : ∀ p ∈ ps₀, m₀ p.1 = some p.2) (hled : ∀ p ∈ led₀, p ∈ news) (h0 : J 0 ps₀ led₀)
    (turn : ∀ i v ps led u h tk own (TQ : Flow → Shared → Prop), OutH (TPost h₀ L (.type "tuple_iterator") own (J (i + 1)) { s with heap := h, toks := tk } Q) TQ → its[i]? = some v → J i ps led → Fr h₀ L h (fun y => if y = x then some v else kstB u ps y) → News h₀ L h (led ++ own) → (∀ q ∈ led, q.1 ≠ l → ∀ p ∈ own, p.1 ≠ q.1) →
      wpAny (model prog w) A (execs body env) (Out TQ) E { s with heap := h, toks := tk })
    (done : ∀ ps led u h tk, J its.size ps led → Fr h₀ L h (kstB u ps) → News h₀ L h led → Q .next { s with heap := h, toks := tk }) (hL : env.locals = L := by rfl) :
    wpAny (model prog w) A (pyIter (.ref l)) (fun it s₂ => LoopAtV prog w A h₀ env x body Q E it s₂) E s := by
  subst hL
  exact loop_tuple hh F N hl hlL J ps₀ led₀ hps hled h0 (fun i v ps led u h tk own => turn i v ps led u h tk own _ .self) done
theorem for_range {r : Addr} {a₀ b₀ : Int} {t₀ u₀ v₀ : Tok} {n : Nat} (hh : A.handled = none) (F : Fr h₀ L s.heap m₀) (N : News h₀ L s.heap news) (hr : IsRange s.heap r a₀ b₀ 1 t₀ u₀ v₀) (hsmall : Builtin.Range.small a₀ b₀ 1 = true) (hn : Builtin.Range.rangeSize a₀ b₀ 1 = (n : Int))
    (J : Nat → List (Str × Value) → List (Addr × Obj) → Prop) (ps₀ : List (Str × Value)) (led₀ : List (Addr × Obj)) (hps : ∀ p ∈ ps₀, m₀ p.1 = some p.2) (hled : ∀ p ∈ led₀, p ∈ news) (h0 : J 0 ps₀ led₀)
    (turn : ∀ i t ps led u h tk own (TQ : Flow → Shared → Prop), OutH (TPost h₀ L (.type "range_iterator") own (J (i + 1)) { s with heap := h, toks := tk } Q) TQ → i < n → J i ps led → Fr h₀ L h (fun y => if y = x then some (.int (a₀ + (i : Int)) t) else kstB u ps y) → News h₀ L h (led ++ own) → (∀ q ∈ led, ∀ p ∈ own, p.1 ≠ q.1) → (∀ p ∈ own, p.2.cls = .type "range_iterator") →
      wpAny (model prog w) A (execs body env) (Out TQ) E { s with heap := h, toks := tk })
    (done : ∀ ps led u h tk, J n ps led → Fr h₀ L h (kstB u ps) → News h₀ L h led → Q .next { s with heap := h, toks := tk }) (hL : env.locals = L := by rfl) :
    wpAny (model prog w) A (pyIter (.ref r)) (fun it s₂ => LoopAtV prog w A h₀ env x body Q E it s₂) E s := by
  subst hL
  exact loop_range hh F N hr hsmall hn J ps₀ led₀ hps hled h0 (fun i v ps led u h tk own => turn i v ps led u h tk own _ .self) done
theorem for_range0 {r : Addr} {b₀ : Int} {t₀ u₀ v₀ : Tok} {n : Nat} (hh : A.handled = none) (F : Fr h₀ L s.heap m₀) (N : News h₀ L s.heap news) (hr : IsRange s.heap r 0 b₀ 1 t₀ u₀ v₀) (hb : b₀ = n) (hn : n < 2 ^ 62)
    (J : Nat → List (Str × Value) → List (Addr × Obj) → Prop) (ps₀ : List (Str × Value)) (led₀ : List (Addr × Obj)) (hps : ∀ p ∈ ps₀, m₀ p.1 = some p.2) (hled : ∀ p ∈ led₀, p ∈ news) (h0 : J 0 ps₀ led₀)
    (turn : ∀ i t ps led u h tk own (TQ : Flow → Shared → Prop), OutH (TPost h₀ L (.type "range_iterator") own (J (i + 1)) { s with heap := h, toks := tk } Q) TQ → i < n → J i ps led → Fr h₀ L h (fun y => if y = x then some (.int (i : Int) t) else kstB u ps y) → News h₀ L h (led ++ own) → (∀ q ∈ led, ∀ p ∈ own, p.1 ≠ q.1) → (∀ p ∈ own, p.2.cls = .type "range_iterator") →
      wpAny (model prog w) A (execs body env) (Out TQ) E { s with heap := h, toks := tk })
    (done : ∀ ps led u h tk, J n ps led → Fr h₀ L h (kstB u ps) → News h₀ L h led → Q .next { s with heap := h, toks := tk }) (hL : env.locals = L := by rfl) :
    wpAny (model prog w) A (pyIter (.ref r)) (fun it s₂ => LoopAtV prog w A h₀ env x body Q E it s₂) E s := by
  subst hb
  exact for_range hh F N hr (small_one (by decide) (by decide) (by omega) (by omega)) (by rw [rangeSize_nat]; simp) J ps₀ led₀ hps hled h0 (fun i t ps led u h tk own TQ hTQ hi hJ F₁ N₁ ho hc => by
    rw [Int.zero_add] at F₁
    exact turn i t ps led u h tk own TQ hTQ hi hJ F₁ N₁ ho hc) done hL
theorem for_any {px pos : Pos} {iter : Expr} (F : Fr h₀ L s.heap m₀) (hx : env.kindOf x = some .local)
    (hp : (env.scope.kind == .class || (env.scope.kind == .module && env.locals != env.globals)) = false)
    (h : wpAny (model prog w) A (eval iter env) (fun xv s₁ => wpAny (model prog w) A (pyIter xv) (fun it s₂ => LoopAtV prog w A h₀ env x body Q (fun _ _ => False) it s₂) (fun _ _ => False) s₁) (fun _ _ => False) s)
    (hs : ∀ x, foldedSetIterable iter env x = pure x := by intro _; rfl) (hL : env.locals = L := by rfl) :
    wpAny (model prog w) A (exec (.For (.Name x px) iter body [] pos) env) Q E s := by
  subst hL
  exact wpAny_noRaise (For_invVF F hx hp h hs (by passes_own))
end
end Mine
namespace Mine
inductive Rows (g : Heap) : List Value → List (List Int) → Prop
  | nil : Rows g [] []
  | cons {a : Addr} {vs : List Value} {n : Nat} {xs : List Int} {rs : List Value} {xss : List (List Int)} : g.get? a = some (listOf (List.toArray vs) n) → IntsAre vs xs → Rows g rs xss → Rows g (.ref a :: rs) (xs :: xss)
theorem Rows.mono {g g' : Heap} (k : g.StaysIn g') : ∀ {rs : List Value} {xss : List (List Int)}, Rows g rs xss → Rows g' rs xss
  | _, _, .nil => .nil
  | _, _, .cons h i r => .cons (k _ _ h) i (r.mono k)
theorem Rows.at {g : Heap} : ∀ {rs : List Value} {xss : List (List Int)}, Rows g rs xss → ∀ (i : Nat) (xs : List Int), xss[i]? = some xs → ∃ a vs n, rs[i]? = some (.ref a) ∧ g.get? a = some (listOf (List.toArray vs) n) ∧ IntsAre vs xs
  | _, _, .nil, i, xs, h => by simp at h
  | _, _, .cons h i r, 0, xs, e => by cases e; exact ⟨_, _, _, rfl, h, i⟩
  | _, _, .cons h i r, j + 1, xs, e => r.at j xs (by simpa using e)
theorem Rows.length {g : Heap} : ∀ {rs : List Value} {xss : List (List Int)}, Rows g rs xss → rs.length = xss.length
  | _, _, .nil => rfl
  | _, _, .cons _ _ r => by simp [r.length]

section
variable {prog : Program} {w : World} {A : Around} {E : Value → Shared → Prop} {s : Shared} {h₀ : Heap} {L : Addr} {m : Str → Option Value} {news news' : List (Addr × Obj)} {Q : Value → Shared → Prop} {value slice : PySem.Expr} {l : Addr} {vs : List Value} {n i : Nat} {u : Tok} {v : Value}
theorem isList_of {h : Heap} {its : Array Value} (hl : h.get? l = some (listOf its n)) : h.IsList l its := ⟨_, hl, rfl, n, rfl⟩
/-- an item of a list, its place known -/
theorem item_at {k : Int} (hl : s.heap.get? l = some (listOf (List.toArray vs) n)) (h0 : 0 ≤ k) (hk : k < 2 ^ 63) (hx : vs[k.toNat]? = some v) (h : Q v s)
    (hs : subscripted slice false (.ref l) (.int k u) = operate [.ref l, .int k u] (getItem (.ref l) (.int k u)) := by with_unfolding_all rfl) : wpAny (model prog w) A (subscriptTail value slice (.ref l) (.int k u)) Q E s :=
  item_litK (isList_of hl) h0 hk hx h hs
theorem item_base (F : Fr h₀ L s.heap m) (hl : h₀.get? l = some (listOf (List.toArray vs) n)) (hx : vs[i]? = some v) (hi : i < 2 ^ 63) (h : Q v s)
    (hs : subscripted slice false (.ref l) (.int (i : Int) u) = operate [.ref l, .int (i : Int) u] (getItem (.ref l) (.int (i : Int) u)) := by with_unfolding_all rfl) : wpAny (model prog w) A (subscriptTail value slice (.ref l) (.int (i : Int) u)) Q E s :=
  item_at (F.keep _ _ hl) (Int.natCast_nonneg i) (by omega) (by simpa using hx) h hs
theorem item_last {k : Int} (N : News h₀ L s.heap news) (hm : (l, listOf (List.toArray (vs ++ [v])) n) ∈ news) (hk : k = -1) (h : Q v s)
    (hs : subscripted slice false (.ref l) (.int k u) = operate [.ref l, .int k u] (getItem (.ref l) (.int k u)) := by with_unfolding_all rfl) : wpAny (model prog w) A (subscriptTail value slice (.ref l) (.int k u)) Q E s := by
  subst hk
  have hl : s.heap.IsList l (List.toArray (vs ++ [v])) := isList_of (N _ hm).1
  refine tail_any hl.typeIs slot_list_getitem.lookup (wpAny_getItem_list_neg hl (by decide) (by simp; omega) (by decide) ?_ h) hs
  simp only [List.size_toArray, List.length_append, List.length_singleton]
  rw [show ((-1 : Int) + ((vs.length + 1 : Nat) : Int)).toNat = vs.length by omega]
  simp
theorem len_base (F : Fr h₀ L s.heap m) (hl : h₀.get? l = some (listOf (List.toArray vs) n)) (hz : vs.length < 2 ^ 62) (h : Q (.int (vs.length : Nat) (s.toks + 1)) { s with toks := s.toks + 1 + 1 }) : wpAny (model prog w) A (call (.builtin "len") [.ref l]) Q E s :=
  len_list (isList_of (F.keep _ _ hl)) (by simp; omega) (by simpa using h)
theorem len_led {k : Nat} (N : News h₀ L s.heap news) (hm : (l, listOf (List.toArray vs) n) ∈ news) (hk : vs.length = k) (hz : k < 2 ^ 62) (h : Q (.int (k : Nat) (s.toks + 1)) { s with toks := s.toks + 1 + 1 }) : wpAny (model prog w) A (call (.builtin "len") [.ref l]) Q E s :=
  len_list (isList_of (N _ hm).1) (by simp; omega) (by subst hk; simpa using h)
theorem last_of {p : List Value} {y : Value} : kl_last (p ++ [y]) = some (p, y) := by
  induction p with
  | nil => rfl
  | cons x r ih =>
    cases r with
    | nil => simp [kl_last]
    | cons z q => simp only [List.cons_append] at ih ⊢; unfold kl_last; rw [ih]
theorem pop_led (F : Fr h₀ L s.heap m) (N : News h₀ L s.heap news) (U : Upd l (listOf (List.toArray (vs ++ [v])) n) (listOf (List.toArray vs) (n + 1)) news news') (hz : vs.length < sizeLine)
    (h : ∀ h', Fr h₀ L h' m → News h₀ L h' news' → Q v { s with heap := h' }) : wpAny (model prog w) A (call (.builtin "list.pop") [.ref l]) Q E s :=
  kl_pop F N (p := vs) (y := v) (by simpa using last_of) U (by simp; omega) h
theorem append_led (F : Fr h₀ L s.heap m) (N : News h₀ L s.heap news) (U : Upd l (listOf (List.toArray vs) n) (listOf (List.toArray (vs ++ [v])) (n + 1)) news news') (hz : vs.length ≤ sizeLine)
    (h : ∀ h', Fr h₀ L h' m → News h₀ L h' news' → Q .none { s with heap := h' }) : wpAny (model prog w) A (call (.builtin "list.append") [.ref l, v]) Q E s :=
  append_K (its := List.toArray vs) (n := n) F N (by simpa only [List.push_toArray] using U) h (by simpa only [List.size_toArray] using hz)
theorem inst_base {x C dx : Addr} {od : Obj} (F : Fr h₀ L s.heap m) (h1 : h₀.get? x = some (instObj C dx)) (h2 : h₀.get? dx = some od) : InstAt s.heap x (instObj C dx) C (some od) := ⟨F.keep _ _ h1, rfl, rfl, F.keep _ _ h2⟩
theorem item_pred {k : Int} (F : Fr h₀ L s.heap m) (hl : h₀.get? l = some (listOf (List.toArray vs) n)) (hx : vs[i]? = some v) (hi : i < 2 ^ 63) (hk : k = (i : Int)) (h : Q v s)
    (hs : subscripted slice false (.ref l) (.int k u) = operate [.ref l, .int k u] (getItem (.ref l) (.int k u)) := by with_unfolding_all rfl) : wpAny (model prog w) A (subscriptTail value slice (.ref l) (.int k u)) Q E s := by
  subst hk
  exact item_at (F.keep _ _ hl) (Int.natCast_nonneg i) (by omega) (by simpa using hx) h hs
theorem item_led (N : News h₀ L s.heap news) (hm : (l, listOf (List.toArray vs) n) ∈ news) (hx : vs[i]? = some v) (hi : i < 2 ^ 63) (h : Q v s)
    (hs : subscripted slice false (.ref l) (.int (i : Int) u) = operate [.ref l, .int (i : Int) u] (getItem (.ref l) (.int (i : Int) u)) := by with_unfolding_all rfl) : wpAny (model prog w) A (subscriptTail value slice (.ref l) (.int (i : Int) u)) Q E s :=
  item_at (N _ hm).1 (Int.natCast_nonneg i) (by omega) (by simpa using hx) h hs
theorem getItem_led (N : News h₀ L s.heap news) (hm : (l, listOf (List.toArray vs) n) ∈ news) (hx : vs[i]? = some v) (hi : i < 2 ^ 63) (h : Q v s) : wpAny (model prog w) A (getItem (.ref l) (.int (i : Int) u)) Q E s :=
  wpAny_getItem_list (isList_of (N _ hm).1) (Int.natCast_nonneg i) (by omega) (by simpa using hx) h
theorem ki_setL_of : ∀ {vs : List Value} {i : Nat} {v : Value}, i < vs.length → ki_setL vs i v = some (vs.set i v)
  | [], _, _, h => absurd h (Nat.not_lt_zero _)
  | _ :: _, 0, _, _ => rfl
  | x :: r, i + 1, v, h => by
    unfold ki_setL
    rw [ki_setL_of (Nat.lt_of_succ_lt_succ h)]
    rfl
theorem set_led {Q : Unit → Shared → Prop} (F : Fr h₀ L s.heap m) (N : News h₀ L s.heap news) (U : Upd l (listOf (List.toArray vs) n) (listOf (List.toArray (vs.set i v)) n) news news') (hi : i < vs.length) (hz : i < 2 ^ 63)
    (h : ∀ h', Fr h₀ L h' m → News h₀ L h' news' → Q () { s with heap := h' }) : wpAny (model prog w) A (setItem (.ref l) (.int (i : Int) u) v) Q E s :=
  ki_set F N (Int.natCast_nonneg i) (by omega) (by rw [Int.toNat_natCast]; exact ki_setL_of hi) U h
theorem set_at (h : i < vs.length) : (vs.set i v)[i]? = some v := by simp [h]
theorem ints_set : ∀ {vs : List Value} {xs : List Int}, IntsAre vs xs → ∀ (i : Nat) (x : Int) (t : Tok), IntsAre (vs.set i (.int x t)) (xs.set i x)
  | _, _, .nil, _, _, _ => .nil
  | _, _, .cons _ _ h, 0, x, t => .cons x t h
  | _, _, .cons a b h, i + 1, x, t => .cons a b (ints_set h i x t)
theorem list_range_led {r : Addr} {a b : Int} {t₀ u₀ v₀ : Tok} {k : Nat} (hh : A.handled = none) (F : Fr h₀ L s.heap m) (N : News h₀ L s.heap news)
    (hr : IsRange s.heap r a b 1 t₀ u₀ v₀) (hsmall : Builtin.Range.small a b 1 = true) (hn : Builtin.Range.rangeSize a b 1 = (k : Int)) (hlen : k ≤ 2 ^ 24)
    (h : ∀ l h' tk ys n', Fr h₀ L h' m → News h₀ L h' ((l, listOf (List.toArray ys) n') :: news) → AllLt l news → IntsAre ys (rangeInts a 1 k) → Q (.ref l) { s with heap := h', toks := tk }) :
    wpAny (model prog w) A (call (.type "list") [.ref r]) Q E s := by
  refine list_rangeD hh F N hr hsmall hn hlen fun h' tk ys F' N' hk hnew hl hp hc => ?_
  obtain ⟨⟨c', e⟩, hne⟩ := hp
  refine h _ h' tk ys c' F' (fun p hp => ?_) (allLt_of fun p hp => Heap.lt_size (N p hp).1) (IntsAre.ofCarried hc)
  rcases List.mem_cons.mp hp with rfl | hp
  · exact ⟨e, Nat.ne_of_gt F.ns.lt, hnew⟩
  · exact N' p hp
theorem truthy_led {k : Nat} {Q : Bool → Shared → Prop} (N : News h₀ L s.heap news) (hm : (l, listOf (List.toArray vs) n) ∈ news) (hk : vs.length = k) (hz : k < 2 ^ 62) (h : Q (decide (0 < k)) { s with toks := s.toks + 1 + 1 }) : wpAny (model prog w) A (truthy (.ref l)) Q E s := by
  refine wpAny_truthy_list (isList_of (N _ hm).1) (by simp; omega) ?_
  have e : (!(List.toArray vs).isEmpty) = decide (0 < k) := by
    subst hk
    cases vs <;> simp
  rw [e]; exact h
end
theorem upd_mem {d : Addr} {o o' : Obj} {l l' : List (Addr × Obj)} (U : Upd d o o' l l') : (d, o) ∈ l := by
  obtain ⟨pre, post, rfl, _, _, _⟩ := U.split
  exact List.mem_append_right _ (.head _)
/-- lists of ints side by side in the ledger -/
inductive BLed : List Addr → List (List Int) → List (Addr × Obj) → Prop
  | nil : BLed [] [] []
  | cons {a : Addr} {vs : List Value} {n : Nat} {xs : List Int} {as : List Addr} {xss : List (List Int)} {l : List (Addr × Obj)} : IntsAre vs xs → BLed as xss l → BLed (a :: as) (xs :: xss) ((a, listOf (List.toArray vs) n) :: l)
theorem BLed.mem_addr : ∀ {as : List Addr} {xss : List (List Int)} {l : List (Addr × Obj)}, BLed as xss l → ∀ p ∈ l, p.1 ∈ as ∧ p.2.cls = .type "list"
  | _, _, _, .nil, _, hp => nomatch hp
  | _, _, _, .cons _ r, p, hp => by
    rcases List.mem_cons.mp hp with rfl | hp
    · exact ⟨.head _, rfl⟩
    · exact ⟨.tail _ (r.mem_addr p hp).1, (r.mem_addr p hp).2⟩
theorem BLed.addr : ∀ {as : List Addr} {xss : List (List Int)} {l : List (Addr × Obj)}, BLed as xss l → ∀ a ∈ as, ∃ o, (a, o) ∈ l
  | _, _, _, .cons (vs := vs) (n := n) _ r, a, ha => by
    rcases List.mem_cons.mp ha with rfl | ha
    · exact ⟨_, .head _⟩
    · obtain ⟨o, ho⟩ := r.addr a ha
      exact ⟨o, .tail _ ho⟩
theorem allLt_mem {d : Addr} : ∀ {l : List (Addr × Obj)}, AllLt d l → ∀ p ∈ l, p.1 < d
  | [], _, _, hp => nomatch hp
  | q :: r, h, p, hp => by
    rcases List.mem_cons.mp hp with rfl | hp
    · exact h.1
    · exact allLt_mem h.2 p hp
theorem BLed.len : ∀ {as : List Addr} {xss : List (List Int)} {l : List (Addr × Obj)}, BLed as xss l → as.length = xss.length
  | _, _, _, .nil => rfl
  | _, _, _, .cons _ r => by simp [r.len]
theorem BLed.at : ∀ {as : List Addr} {xss : List (List Int)} {l : List (Addr × Obj)}, BLed as xss l → ∀ (i : Nat) (a : Addr), as[i]? = some a → ∃ vs n xs, xss[i]? = some xs ∧ (a, listOf (List.toArray vs) n) ∈ l ∧ IntsAre vs xs
  | _, _, _, .nil, i, a, h => by simp at h
  | _, _, _, .cons h r, 0, a, e => by cases e; exact ⟨_, _, _, rfl, .head _, h⟩
  | _, _, _, .cons h r, j + 1, a, e => by
    obtain ⟨vs, n, xs, h1, h2, h3⟩ := r.at j a (by simpa using e)
    exact ⟨vs, n, xs, by simpa using h1, .tail _ h2, h3⟩
theorem BLed.snoc {a : Addr} {vs : List Value} {n : Nat} {xs : List Int} (hI : IntsAre vs xs) : ∀ {as : List Addr} {xss : List (List Int)} {l : List (Addr × Obj)}, BLed as xss l → BLed (as ++ [a]) (xss ++ [xs]) (l ++ [(a, listOf (List.toArray vs) n)])
  | _, _, _, .nil => .cons hI .nil
  | _, _, _, .cons h r => .cons h (r.snoc hI)
theorem BLed.put {x : Int} {t : Tok} : ∀ {as : List Addr} {xss : List (List Int)} {l own : List (Addr × Obj)}, BLed as xss l → as.Nodup → ∀ (i : Nat) (a : Addr), as[i]? = some a → (∀ p ∈ own, p.1 ≠ a) →
    ∃ vs n l', vs.length = (xss.getD i []).length ∧ Upd a (listOf (List.toArray vs) n) (listOf (List.toArray (vs ++ [.int x t])) (n + 1)) (l ++ own) (l' ++ own) ∧ BLed as (xss.modify i (· ++ [x])) l'
  | _, _, _, _, .nil, _, i, a, h, _ => by simp at h
  | _, _, _, own, .cons (l := l) (as := as) h r, nd, 0, a, e, ho => by
    cases e
    refine ⟨_, _, _, by simpa using h.length, Upd.head fun p hp => ?_, .cons (IntsAre.append h (.cons x t .nil)) r⟩
    rcases List.mem_append.mp hp with hp | hp
    · exact fun e => (List.nodup_cons.mp nd).1 (e ▸ (r.mem_addr p hp).1)
    · exact ho p hp
  | _, _, _, own, .cons (a := b) h r, nd, j + 1, a, e, ho => by
    obtain ⟨vs, n, l', h1, h2, h3⟩ := r.put (List.nodup_cons.mp nd).2 j a (by simpa using e) ho
    refine ⟨vs, n, _, by simpa using h1, Upd.tail (fun e' => (List.nodup_cons.mp nd).1 ?_) h2, .cons h h3⟩
    have e' : b = a := e'
    rw [e']; exact List.mem_of_getElem? (by simpa using e)
/-- one entry of a ledger, and the rest -/
inductive Pick (q : Addr × Obj) : List (Addr × Obj) → List (Addr × Obj) → Prop
  | head {r : List (Addr × Obj)} : Pick q (q :: r) r
  | tail {p : Addr × Obj} {r r' : List (Addr × Obj)} : Pick q r r' → Pick q (p :: r) (p :: r')
theorem Pick.mem {q : Addr × Obj} : ∀ {a b : List (Addr × Obj)}, Pick q a b → q ∈ a
  | _, _, .head => .head _
  | _, _, .tail h => .tail _ h.mem
theorem Pick.sub {q : Addr × Obj} : ∀ {a b : List (Addr × Obj)}, Pick q a b → ∀ p ∈ b, p ∈ a
  | _, _, .head => fun _ h => .tail _ h
  | _, _, .tail h => fun p hp => by
    rcases List.mem_cons.mp hp with rfl | hp
    · exact .head _
    · exact .tail _ (h.sub p hp)
section
variable {prog : Program} {w : World} {K : Frag} {f : Addr} {vs : List Value} {kw : List (Str × Value)} {dp un : Nat} {R : Heap → Prop} {give : List (Addr × Obj)} {Post : Heap → Value → List (Addr × Obj) → Prop}
  {A : Around} {h₀ : Heap} {L : Addr} {m : Str → Option Value} {news : List (Addr × Obj)} {s : Shared} {p : Program} {loose : List Str} {mg mb : Str → Option Value} {Q E : Value → Shared → Prop}
theorem Spc.call1 {q : Addr × Obj} {rest : List (Addr × Obj)} (C : Spc prog w K f vs [] dp un R [q] Post) (hh : A.handled = none) (hd : A.depth + dp < recursionLimit) (hu : A.units + un < cLine)
    (F : Fr h₀ L s.heap m) (N : News h₀ L s.heap news) (X : K.In h₀) (T : TopRead p loose mg mb h₀) (P : Pick q news rest) (hoff : ∀ p ∈ rest, p.1 ≠ q.1)
    (hR : ∀ g : Heap, h₀.StaysIn g → (∀ q ∈ rest, g.get? q.1 = some q.2) → R g)
    (ret : ∀ g r nw h' tk', h₀.StaysIn g → Fr h₀ L h' m → News h₀ L h' (nw ++ rest) → (∀ a ∈ nw, ∀ b ∈ rest, a.1 ≠ b.1) → Post g r nw → Q r { s with heap := h', toks := tk' }) :
    wpAny (model prog w) A (PySem.call (.ref f) vs) Q E s :=
  Spc.call C hh hd hu F N X T rest (fun a ha => by rw [List.mem_singleton.mp ha]; exact P.mem) P.sub (fun a ha b hb => by rw [List.mem_singleton.mp hb]; exact hoff a ha) hR
    (fun g r nw h' tk' st _ F' N' _ hne hP => ret g r nw h' tk' st F' N' hne hP)
end
end Mine
namespace Mine
open LCg
theorem off1_mem {D : Addr} : ∀ {l : List (Addr × Obj)}, Off1 D l → ∀ p ∈ l, p.1 ≠ D
  | [], _, _, h => nomatch h
  | _ :: _, x, p, h => by
    rcases List.mem_cons.mp h with rfl | h
    · exact x.1
    · exact off1_mem x.2 p h
section
variable {prog : Program} {w : World} {A : Around} {E : Value → Shared → Prop} {s : Shared} {h₀ : Heap} {L : Addr} {m : Str → Option Value} {env : Env}

/-- the end of an element of a comprehension -/
def CEnd (h₀ : Heap) (L : Addr) (m : Str → Option Value) (s₁ : Shared) (I : Addr) (oI : Obj) (C : Addr) (oC : Obj) (D : Addr) (oD : Obj) (S : List (Addr × Obj) → Prop) (J : Value → List (Addr × Obj) → Prop) (y : Value) (s₂ : Shared) : Prop :=
  ∃ h' tk all, s₂ = { s₁ with heap := h', toks := tk } ∧ Fr h₀ L h' m ∧ News h₀ L h' all ∧ Hold (∃ news', (∀ p ∈ (I, oI) :: (C, oC) :: (D, oD) :: news', p ∈ all) ∧ Off3 I C D news' ∧ S news' ∧ J y news')

theorem compRest_inv {elt : Expr} {x : Str} {scope : Scope} {cl : List (Str × Addr)} {S : List (Addr × Obj) → Prop} {P : Nat → Value → Prop} {Fin : List Value → List (Addr × Obj) → Prop} (J : Nat → List Value → List (Addr × Obj) → Prop) {n : Nat}
    (turn : ∀ i v ys news I oI C oC D m₂ h tk, i < n → P i v → J i ys news → S news → NsObj oC m₂ → m₂ x = some v → Fr h₀ L h m → News h₀ L h ((I, oI) :: (C, oC) :: (D, lst ys) :: news) → Off3 I C D news → ((@Ne Nat I C) ∧ (@Ne Nat I D) ∧ (@Ne Nat C D)) →
      wpAny (model prog w) A (eval elt (compEnvC scope cl C env)) (CEnd h₀ L m { s with heap := h, toks := tk } I oI C oC D (lst ys) S (fun y news' => J (i + 1) (ys ++ [y]) news')) (fun _ _ => False) { s with heap := h, toks := tk })
    (done : ∀ ys news, J n ys news → S news → Fin ys news) :
    ∀ k i ys news, k + i = n → J i ys news → S news → CompRest prog w A h₀ L m env elt x scope cl s S P Fin k i ys news := by
  intro k
  induction k with
  | zero =>
    intro i ys news hk hJ hS
    obtain rfl : i = n := by omega
    exact done ys news hJ hS
  | succ k ih =>
    intro i ys news hk hJ hS
    refine CompRest.succ fun v I oI C oC D m₂ h tk E' hP hC hx F N off ne => ?_
    refine wpAny_mono (turn i v ys news I oI C oC D m₂ h tk (by omega) hP hJ hS hC hx F N off ne) (fun y s₂ p => ?_) fun _ _ e => e.elim
    obtain ⟨h', tk', all, rfl, F', N', ⟨news', sub, o, hS', hJ'⟩⟩ := p
    exact CompEnd.intro F' N' news' sub o hS' (ih (i + 1) _ _ (by omega) hJ' hS')

theorem compRestP_inv {elt : Expr} {x x₂ : Str} {scope : Scope} {cl : List (Str × Addr)} {S : List (Addr × Obj) → Prop} {P : Nat → Value → Prop} {Fin : List Value → List (Addr × Obj) → Prop} (J : Nat → List Value → List (Addr × Obj) → Prop) {n : Nat}
    (turn : ∀ i v ys news, i < n → P i v → J i ys news → S news → ∃ (t : Addr) (v₁ v₂ : Value) (nt : Nat), v = .ref t ∧ (t, ({ cls := .type "tuple", data := .seq #[v₁, v₂] nt } : Obj)) ∈ news ∧
      ∀ I oI C oC D m₂ h tk, NsObj oC m₂ → m₂ x = some v₁ → m₂ x₂ = some v₂ → Fr h₀ L h m → News h₀ L h ((I, oI) :: (C, oC) :: (D, lst ys) :: news) → Off3 I C D news → ((@Ne Nat I C) ∧ (@Ne Nat I D) ∧ (@Ne Nat C D)) →
      wpAny (model prog w) A (eval elt (compEnvC scope cl C env)) (CEnd h₀ L m { s with heap := h, toks := tk } I oI C oC D (lst ys) S (fun y news' => J (i + 1) (ys ++ [y]) news')) (fun _ _ => False) { s with heap := h, toks := tk })
    (done : ∀ ys news, J n ys news → S news → Fin ys news) :
    ∀ k i ys news, k + i = n → J i ys news → S news → LCp.CompRestP prog w A h₀ L m env elt x x₂ scope cl s S P Fin k i ys news := by
  intro k
  induction k with
  | zero =>
    intro i ys news hk hJ hS
    obtain rfl : i = n := by omega
    exact done ys news hJ hS
  | succ k ih =>
    intro i ys news hk hJ hS
    refine LCp.CompRestP.succ fun v hP => ?_
    obtain ⟨t, v₁, v₂, nt, rfl, hm, R⟩ := turn i v ys news (by omega) hP hJ hS
    refine ⟨t, _, v₁, v₂, nt, rfl, hm, rfl, rfl, fun I oI C oC D m₂ h tk E' hC hx hx₂ F N off ne => ?_⟩
    refine wpAny_mono (R I oI C oC D m₂ h tk hC hx hx₂ F N off ne) (fun y s₂ p => ?_) fun _ _ e => e.elim
    obtain ⟨h', tk', all, rfl, F', N', ⟨news', sub, o, hS', hJ'⟩⟩ := p
    exact CompEnd.intro F' N' news' sub o hS' (ih (i + 1) _ _ (by omega) hJ' hS')

section
variable {M : Model} {K : Frag} {C : Addr} {mg mb : Str → Option Value} {scope : Scope} {cl : List (Str × Addr)} {p : Program} {loose : List Str} {x : Str} {pos : Pos} {v : Value} {Q : Value → Shared → Prop}
theorem ldc_global (F : Fr h₀ L s.heap m) (X : K.In h₀) (T : TopRead p loose mg mb h₀) (e : nsIn K mainGlobals x = some (some v)) (h : Q v s) (hg : env.globals = mainGlobals := by rfl)
    (hk : (compEnvC scope cl C env).scope.kind = .function := by rfl) (hx : (compEnvC scope cl C env).kindOf x = some .globalImplicit := by rfl) (hd : (x == ("__debug__" : Str)) = false := by decide) :
    wpAny M A (eval (.Name x pos) (compEnvC scope cl C env)) Q E s :=
  Name_function_global hk hx (loadGlobal_global (env := compEnvC scope cl C env) (show s.heap.Ns env.globals mg from hg ▸ (T.keeps F.keep).g) (mg_of X T.g e) h) hd
theorem ldc_built (F : Fr h₀ L s.heap m) (X : K.In h₀) (T : TopRead p loose mg mb h₀) (e : nsIn K mainGlobals x = some none) (hv : bootBuiltins x = some v) (hn : x ≠ "__name__") (h : Q v s) (hg : env.globals = mainGlobals := by rfl) (hb : env.builtins = builtinsNs := by rfl)
    (hk : (compEnvC scope cl C env).scope.kind = .function := by rfl) (hx : (compEnvC scope cl C env).kindOf x = some .globalImplicit := by rfl) (hd : (x == ("__debug__" : Str)) = false := by decide) :
    wpAny M A (eval (.Name x pos) (compEnvC scope cl C env)) Q E s :=
  Name_function_global hk hx (loadGlobal_builtin (env := compEnvC scope cl C env) (show s.heap.Ns env.globals mg from hg ▸ (T.keeps F.keep).g) (mg_none_of X T.g e) (show s.heap.Ns env.builtins mb from hb ▸ (T.keeps F.keep).b) ((T.builtins x hn).trans hv) h) hd
end
end
end Mine
namespace Mine
section
variable {prog : Program} {w : World} {K : Frag} {f : Addr} {vs : List Value} {kw : List (Str × Value)} {dp un : Nat} {R : Heap → Prop} {give : List (Addr × Obj)} {Post : Heap → Value → List (Addr × Obj) → Prop}
  {name qual : Str} {params : Arguments} {body : List Stmt} {scope : Scope} {dV kV doc pm cdv ct oc : Value} {an od : Option Addr} {osl : Array (Option Value)} {binds : List (Str × Value)}
/-- Spc.intro for a def with cells -/
theorem Spc.introC (ho : K.lookup f = some ⟨oc, od, .func (fnOf name qual params body scope dV kV doc pm an cdv ct), osl⟩) (hcd : codeIn K cdv qual = true)
    (hbind : ∀ s, BindsTo s (fnOf name qual params body scope dV kV doc pm an cdv ct) ⟨vs, kw⟩ binds)
    (hkind : ∀ n, ∀ x ∈ binds, scope.names.lookup x.1 = some .local ∨ (scope.names.lookup x.1 = some .cell ∧ ((cellsFrom n scope.names []).lookup x.1).isSome = true))
    (hnd : ((cellsFrom 0 scope.names []).map (·.1)).Nodup)
    (h : ∀ (A : Around) (g : Heap) (L : Addr) (h₁ : Heap) (s : Shared) (tk : Nat) (p : Program) (loose : List Str) (mg mb : Str → Option Value) (cells : List (Addr × Obj)) (QF : Flow → Shared → Prop), OutH (Done g L Post s) QF →
      A.handled = none → A.depth + dp < recursionLimit → A.units + un < cLine → Fr g L h₁ (bindL (envOfC qual scope L f cdv).kindOf binds fun _ => none) → News g L h₁ (cells ++ give) →
      CellsAre (bindC (envOfC qual scope L f cdv).kindOf binds fun _ => none) (cellsFrom (L + 1) scope.names []) cells → (∀ q ∈ give, q.1 < L) → K.In g → TopRead p loose mg mb g → R g →
      wpAny (model prog w) A (execs body (envOfC qual scope L f cdv)) (Out QF) (fun _ _ => False) { s with heap := h₁, toks := tk })
    (hco : scope.isCoroutine = false := by rfl) (hgen : scope.isGenerator = false := by rfl) (hk : scope.kind = .function := by rfl) : Spc prog w K f vs kw (dp + 1) (un + 3) R give Post := by
  intro A g s p loose mg mb RR hh hd hu X T hR hsz hk1 hgive ret
  refine codeAny_call_function (by omega) (hk1 _ _ (X _ _ ho)) rfl hco hgen rfl ((codeRec_of X hcd).keeps hk1) (hbind _ _ _ _ _ ?_)
  refine wpAny_newFunctionEnv_cells hk (hkind _) fun env' he s' x => ?_
  subst he
  refine ⟨(T.nolimit.keeps hk1).keeps x.toInCall.keep, codeAny_func ?_⟩
  obtain ⟨h₁, tk, rfl, _⟩ := x.done
  have hk₁ := x.toInCall.keep
  obtain ⟨cells, NC, Y⟩ := Cl.news (h₀ := s.heap) (Nat.le_refl _) fun n c hm => ⟨x.cell n c (lookup_of_mem_nodup (cellsFrom_names scope.names 0 (s.heap.objs.size + 1) [] [] rfl ▸ hnd) hm), x.above n c hm⟩
  refine wpAny_mono (h (A.deeper (envOfC qual scope s.heap.objs.size f cdv)) g s.heap.objs.size h₁ s tk p loose mg mb cells _ .self hh (by rw [depth_deeper]; omega) (by rw [units_deeper]; omega)
    ⟨x.toInCall.ns, fun b o e => hk₁ b o (hk1 b o e), hsz⟩ (fun q hq => ?_) Y (fun q hq => Heap.lt_size (hgive q hq).1) X T hR) (fun fl s' hl => ?_) fun _ _ x => x.elim
  · rcases List.mem_append.mp hq with hq | hq
    · refine ⟨(NC q hq).1, (NC q hq).2.1, ?_⟩
      cases e : g.get? q.1 with
      | none => rfl
      | some o => have := hk1 _ _ e; rw [(NC q hq).2.2] at this; cases this
    · exact ⟨hk₁ _ _ (hgive q hq).1, Nat.ne_of_lt (Heap.lt_size (hgive q hq).1), (hgive q hq).2⟩
  · obtain ⟨h', tk', m', all, rfl, F', N', ⟨news', hs, hP⟩⟩ := hl
    exact ret _ news' h' tk' F'.keep (fun q hq => ⟨(N' q (hs q hq)).1, (N' q (hs q hq)).2.2⟩) hP
end
end Mine
namespace Mine
theorem fill : PySem.Challenge.rw_sm0017_01 = PySem.Challenge.rw_sm0017_01 ∧ Mine.hd.heap_1 = Mine.hd.heap_1 := by
  k_fill
  exact ⟨rfl, rfl⟩
end Mine
local macro_rules | `(tactic| walk_at "Done") => `(tactic| (refine ⟨_, _, _, _, rfl, by assumption, by assumption, ?_⟩; try dsimp only))
local macro_rules | `(tactic| walk_at "my steps") => `(tactic| repeat' (first | walk1 | (dsimp only; walk1) | fail "no step"))
local macro_rules | `(tactic| walk_at "my cases") => `(tactic| (
  case k6 => k_is
  case k7 => k_is
  case kb => exact rfl
  case kl => exact rfl
  case c1 => exact rfl
  case c2 => exact rfl
  case c3 => exact rfl
  case c4 => decide))
local macro_rules | `(tactic| walk_at "exec For Name Call cons nil") => `(tactic| refine Mine.Hold.it ?_)
local macro_rules | `(tactic| walk_at "exec For Name Name cons nil") => `(tactic| refine Mine.Hold.it ?_)
local macro_rules | `(tactic| walk_at "exec For Name Subscript cons nil") => `(tactic| refine Mine.Hold.it ?_)
local macro_rules | `(tactic| walk_at "exec For Name Tuple cons nil") => `(tactic| refine Mine.Hold.it ?_)
local macro_rules | `(tactic| walk_at "exec While Compare cons nil") => `(tactic| refine Mine.Hold.it ?_)
local macro_rules | `(tactic| walk_at "pyIter ref") => `(tactic| refine Mine.Hold.it ?_)
local macro_rules | `(tactic| walk_at "call ref") => `(tactic| (plain_pass; refine Mine.Hold.it ?_))
local macro_rules | `(tactic| walk_at "TPost") => `(tactic| dsimp only [Mine.TPost])
local macro_rules | `(tactic| walk_at "WPost") => `(tactic| dsimp only [Mine.WPost])
local macro_rules | `(tactic| k_all) => `(tactic| assumption)
local macro_rules | `(tactic| walk_at "call type:range") => `(tactic| (first | refine range1_rows (by assumption) (by assumption) ?_ | refine range2_rows (by assumption) (by assumption) ?_); intro h' tk' t₁' u₁' v₁' rg' F' N' kp')
local macro_rules | `(tactic| walk_at "my ne") => `(tactic| first | assumption | exact Nat.ne_of_gt (by assumption) | exact Nat.ne_of_lt (by assumption) | exact Ne.symm (by assumption) | (refine neN ?_; omega))
local macro_rules | `(tactic| walk_at "my off") => `(tactic| (simp only [List.mem_cons, List.not_mem_nil, or_false, forall_eq, forall_eq_or_imp, List.mem_singleton, false_or, implies_true, and_true]; (repeat' apply And.intro) <;> walk_at "my ne"))
local macro_rules | `(tactic| walk_at "my ps") => `(tactic| ((repeat (refine List.forall_mem_cons.mpr ?_; refine ⟨by exact rfl, ?_⟩)); exact List.forall_mem_nil _))
local macro_rules | `(tactic| walk_at "my in") => `(tactic| first | assumption | exact List.Mem.head _ | (refine List.Mem.tail _ ?_; walk_at "my in") | (refine Mine.in_appL ?_; walk_at "my in") | (refine Mine.in_appR ?_; walk_at "my in"))
local macro_rules | `(tactic| walk_at "my sub1") => `(tactic| first | exact Mine.sub_self | assumption | (refine Mine.sub_tail ?_; walk_at "my sub1") | (refine Mine.sub_appL ?_; walk_at "my sub1") | (refine Mine.sub_appR ?_; walk_at "my sub1"))
local macro_rules | `(tactic| walk_at "my sub") => `(tactic| ((try simp only [List.cons_append, List.nil_append]); (repeat (refine List.forall_mem_cons.mpr ?_; refine ⟨by walk_at "my in", ?_⟩)); first | exact List.forall_mem_nil _ | walk_at "my sub1" | (refine Mine.sub_app ?_ ?_ <;> walk_at "my sub")))
local macro_rules | `(tactic| walk_at "my cls") => `(tactic| ((repeat (refine List.forall_mem_cons.mpr ?_; refine ⟨by (intro e; exact absurd (Value.type.inj e) (by decide)), ?_⟩)); exact List.forall_mem_nil _))
local macro_rules | `(tactic| k_inst) => `(tactic| exact Mine.inst_base (by k_asm) (by assumption) (by assumption))
local macro_rules | `(tactic| walk_at "subscriptTail Attribute Name UnaryOp") => `(tactic| (k_here; (with_reducible show wpAny _ _ (subscriptTail _ _ (Value.ref _) (Value.int _ _)) _ _ _); refine Mine.item_last (by assumption) (by walk_at "my in") (by omega) ?_))
local macro_rules | `(tactic| walk_at "subscriptTail Name BinOp") => `(tactic| (k_here; (with_reducible show wpAny _ _ (subscriptTail _ _ (Value.ref _) (Value.int _ _)) _ _ _); refine Mine.item_pred (by assumption) (by assumption) (by assumption) (by omega) (by omega) ?_))
local macro_rules | `(tactic| walk_at "subscriptTail") => `(tactic| (k_here; (with_reducible show wpAny _ _ (subscriptTail _ _ (Value.ref _) (Value.int (Nat.cast _) _)) _ _ _); k_dflt (first | refine Mine.item_base (by assumption) (by assumption) (by assumption) (by omega) ?_ | refine Mine.item_led (by assumption) (by walk_at "my in") (by first | assumption | exact Mine.set_at (by assumption)) (by omega) ?_)))
local macro_rules | `(tactic| walk_at "call builtin:len") => `(tactic| (k_here; first
  | (refine Mine.len_base (by assumption) (by assumption) (by omega) ?_)
  | (refine Mine.len_led (by assumption) (by walk_at "my in") (by ((try simp only [List.length_append, List.length_cons, List.length_nil]); exact rfl)) (by omega) ?_)
  | (refine Mine.len_led (by assumption) (by walk_at "my in") (by assumption) (by omega) ?_)))
local macro_rules | `(tactic| walk_at "call builtin:list.pop") => `(tactic| (k_here; (k_dflt (refine' Mine.pop_led ?F ?N ?U ?z ?_; (case F => k_asm); (case N => k_asm); (case U => k_upd); (case z => (rw [sizeLine_eq]; (try simp only [List.length_append, List.length_cons, List.length_nil]); omega)))); intro h' F' N'))
local macro_rules | `(tactic| walk_at "call builtin:list.append") => `(tactic| (k_here; (k_dflt (refine' Mine.append_led ?F ?N ?U ?z ?_; (case F => k_asm); (case N => k_asm); (case U => k_upd); (case z => (rw [sizeLine_eq]; (try simp only [List.length_append, List.length_cons, List.length_nil]); omega)))); intro h' F' N'))
local macro_rules | `(tactic| walk_at "call type:list") => `(tactic| (k_here; (with_reducible show wpAny _ _ (call (Value.type "list") [Value.ref _]) _ _ _); (rename IsRange _ _ _ _ _ _ _ _ => rgX); (refine Mine.list_range_led (by assumption) (by assumption) (by assumption) rgX (small_one (by omega) (by omega) (by omega) (by omega)) (rangeSize_nat _ _) (by omega) ?_); intro l' h' tk' ys' n' F' N' l1; (simp only [AllLt, and_true] at l1); intro hI'))
local macro_rules | `(tactic| walk_at "my pick") => `(tactic| first | exact Mine.Pick.head | (refine' Mine.Pick.tail ?pk; (case pk => walk_at "my pick")))
local macro_rules | `(tactic| walk_at "truthy ref") => `(tactic| (k_here; (refine Mine.truthy_led (by assumption) (by walk_at "my in") (by first | exact rfl | assumption) (by omega) ?_)))
local macro_rules | `(tactic| walk_at "my all") => `(tactic| ((repeat (refine List.forall_mem_cons.mpr ?_; refine ⟨by walk_at "my ne", ?_⟩)); first | exact List.forall_mem_nil _ | assumption))
local macro_rules | `(tactic| walk_at "CEnd") => `(tactic| refine ⟨_, _, _, rfl, by assumption, by assumption, ?_⟩)
local macro_rules | `(tactic| walk_at "CompSrc") => `(tactic| refine Mine.Hold.it ?_)
local macro_rules | `(tactic| walk_at "SrcLP") => `(tactic| refine Mine.Hold.it ?_)
local macro_rules | `(tactic| walk_at "FinA") => `(tactic| refine Mine.Hold.it ?_)
local macro_rules | `(tactic| walk_at "FinE") => `(tactic| refine Mine.Hold.it ?_)
local macro_rules | `(tactic| walk_at "exec Assign cons ListComp") => `(tactic| (k_here; (with_reducible show wpAny _ _ (exec (Stmt.Assign _ (Expr.ListComp _ [Comprehension.mk (Expr.Name _ _) _ _ _] _ _) _) _) _ _ _); (k_dflt (refine LCg.Assign_ListComp_U (F₀ := by k_asm) (by rfl) (by with_unfolding_all rfl) (by with_unfolding_all rfl) (by decide) (by rfl) (by decide) (by rfl) (by rfl) (by rfl) ?_))))
local macro_rules | `(tactic| walk_at "exec Assign cons ListComp") => `(tactic| (k_here; (with_reducible show wpAny _ _ (exec (Stmt.Assign _ (Expr.ListComp _ [Comprehension.mk (Expr.Tuple _ _ _) _ _ _] _ _) _) _) _ _ _); (k_dflt (refine LCp.Assign_ListComp_P (F₀ := by k_asm) (by rfl) (by with_unfolding_all rfl) (by with_unfolding_all rfl) (by decide) (by rfl) (by decide) (by rfl) (by rfl) (by decide) (by rfl) (by rfl) ?_))))
local macro_rules | `(tactic| walk_at "eval Name") => `(tactic| (k_here; (with_reducible show wpAny _ _ (eval (Expr.Name _ _) (compEnvC _ _ _ _)) _ _ _); k_dflt (first
  | refine LCgL.ld_own (by k_asm) (by k_mem) (by assumption) (by assumption) ?_
  | refine Mine.ldc_global (by k_asm) (by k_asm) (by k_asm) (by k_is) ?_
  | refine Mine.ldc_built (by k_asm) (by k_asm) (by k_asm) (by k_is) (by boot_fast) (by decide) ?_)))
local macro_rules | `(tactic| walk_at "getItem ref int") => `(tactic| (k_here; (with_reducible show wpAny _ _ (getItem (Value.ref _) (Value.int (Nat.cast _) _)) _ _ _); k_dflt (refine Mine.getItem_led (by assumption) (by walk_at "my in") (by first | assumption | exact Mine.set_at (by assumption)) (by omega) ?_)))
local macro_rules | `(tactic| walk_at "setItem ref int") => `(tactic| (k_here; (with_reducible show wpAny _ _ (setItem (Value.ref _) (Value.int (Nat.cast _) _) _) _ _ _); (k_dflt (refine' Mine.set_led ?F ?N ?U ?i ?z ?_; (case F => k_asm); (case N => k_asm); (case U => k_upd); (case i => assumption); (case z => omega))); intro h' F' N'))
local macro_rules | `(tactic| k_upd) => `(tactic| assumption)
local macro_rules | `(tactic| k_ne) => `(tactic| walk_at "my ne")
local macro_rules | `(tactic| walk_at "getMethod ref") => `(tactic| (k_here; (with_reducible show wpAny _ _ (getMethod (Value.ref _) (Str.ofString "append") _) _ _ _); with_unfolding_all refine getMethod_append_N (by assumption) (by walk_at "my in") ?_))
local macro_rules | `(tactic| walk_at "unpackItems ref") => `(tactic| (k_here; (refine unpackItemsN_ (by assumption) (by assumption) (News.isTup (by assumption) (by walk_at "my in")) (by assumption) (by exact rfl) ?_); intro h' F' N'))
local macro_rules | `(tactic| walk_at "assign Tuple") => `(tactic| (k_here; (with_reducible show wpAny _ _ (assign (Expr.Tuple _ _ _) _ (Value.ref _)) _ _ _); (k_dflt (refine' unpackN_ ?k1 ?k2 ?k3 ?k4 ?k5 ?k6 ?_; (case k1 => k_asm); (case k2 => k_asm); (case k3 => exact News.isTup (by assumption) (by walk_at "my in")); (case k4 => k_asm); (case k5 => exact rfl); (case k6 => exact rfl))); intro h' F' N'))
local macro_rules | `(tactic| walk_at "Out") => `(tactic| refine Mine.Out.of (by assumption) ?_)
namespace Mine
/-- what a leaf is worth -/
def leafV (d c : Bool) (ply : Nat) : Int := if 0 < ply ∧ d = true then 0 else if c = true then (ply : Int) - 32000 else 0
/-- the plain search over places -/
def NM (after : Int → List Int) (lost : Int → Bool) : Nat → Int → Nat → Int
  | 0, p, k => leafV (p == -1) (p != -1 && lost p) k
  | d + 1, p, k => if 0 < k ∧ p = -1 then 0 else if after p = [] then (if (p != -1 && lost p) = true then (k : Int) - 32000 else 0) else
      (after p).foldl (fun m q => max m (-(NM after lost d q (k + 1)))) (-32001)
/-- the tree of all games as the objects' contents bear it -/
structure TreeOk (after : Int → List Int) (lost : Int → Bool) (D : Nat) (nodes : List (Int × Nat)) (kids : List (List Int)) (cks drs : List Bool) : Prop where
  small : nodes.length < 100
  node : ∀ (i : Nat) (p : Int) (k : Nat), nodes[i]? = some (p, k) → cks[i]? = some (p != -1 && lost p) ∧ drs[i]? = some (p == -1) ∧ ∃ row, kids[i]? = some row ∧ row.length ≤ 2 ∧
    (p = -1 → row = []) ∧ (k = D → row = []) ∧ (p ≠ -1 → k < D → row.length = (after p).length ∧ ∀ (j : Nat) (q : Int), (after p)[j]? = some q → ∃ c : Nat, row[j]? = some (c : Int) ∧ nodes[c]? = some (q, k + 1))
/-- what a search within a window may say of the value v -/
def Bnd (a b r v : Int) : Prop := (r ≤ a → v ≤ r) ∧ (b ≤ r → r ≤ v) ∧ (a < r → r < b → r = v)
theorem Bnd.refl {a b v : Int} : Bnd a b v v := ⟨fun _ => Int.le_refl _, fun _ => Int.le_refl _, fun _ _ => rfl⟩

section
variable {after : Int → List Int} {lost : Int → Bool}
/-- the plain search's best after j moves -/
def best (after : Int → List Int) (lost : Int → Bool) (d : Nat) (p : Int) (k j : Nat) : Int := ((after p).take j).foldl (fun m q => max m (-(NM after lost d q (k + 1)))) (-32001)
theorem best_zero {d : Nat} {p : Int} {k : Nat} : best after lost d p k 0 = -32001 := by simp [best]
theorem best_succ {d : Nat} {p q : Int} {k j : Nat} (h : (after p)[j]? = some q) : best after lost d p k (j + 1) = max (best after lost d p k j) (-(NM after lost d q (k + 1))) := by
  simp [best, List.take_add_one, h]
theorem best_all {d : Nat} {p : Int} {k : Nat} (hp : p ≠ -1) (hne : after p ≠ []) : best after lost d p k (after p).length = NM after lost (d + 1) p k := by
  simp [best, NM, hp, hne]
theorem foldl_max_mono {f : Int → Int} : ∀ (l : List Int) (m : Int), m ≤ l.foldl (fun m q => max m (f q)) m
  | [], _ => Int.le_refl _
  | x :: r, m => Int.le_trans (Int.le_max_left _ _) (foldl_max_mono r (max m (f x)))
theorem best_le {d : Nat} {p : Int} {k j : Nat} (hp : p ≠ -1) (hne : after p ≠ []) : best after lost d p k j ≤ NM after lost (d + 1) p k := by
  rw [← best_all hp hne]
  simp only [best, List.take_length]
  conv => rhs; rw [← List.take_append_drop j (after p)]
  rw [List.foldl_append]
  exact foldl_max_mono _ _
theorem NM_draw {d : Nat} {k : Nat} (hk : 0 < k) : NM after lost d (-1) k = 0 := by
  cases d <;> simp [NM, leafV, hk]
theorem NM_end {d : Nat} {p : Int} {k : Nat} (hp : p ≠ -1) (h : after p = []) : NM after lost (d + 1) p k = if (p != -1 && lost p) = true then (k : Int) - 32000 else 0 := by
  simp [NM, hp, h]
end
end Mine
namespace Mine
structure St where
  vals : List Int
  lefts : List Int
  q : List Int
/-- one predecessor n of the place m is looked at -/
def relax (ss : List Int) (m : Int) (st : St) (n : Int) : St :=
  if st.vals.getD n.toNat 0 = -1 ∧ (ss.getD n.toNat 0 = 0 ∨ st.lefts.getD n.toNat 0 - 1 = 0) then ⟨st.vals.set n.toNat (st.vals.getD m.toNat 0 + 1), st.lefts.set n.toNat (st.lefts.getD n.toNat 0 - 1), st.q ++ [n]⟩
  else ⟨st.vals, st.lefts.set n.toNat (st.lefts.getD n.toNat 0 - 1), st.q⟩
def procM (ss : List Int) (befs : List (List Int)) (st : St) (m : Int) : St := (befs.getD m.toNat []).foldl (relax ss m) st
def runS (ss : List Int) (befs : List (List Int)) (st0 : St) : Nat → St
  | 0 => st0
  | a + 1 => procM ss befs (runS ss befs st0 a) ((runS ss befs st0 a).q.getD a 0)

structure Ini where
  vals : List Int
  lefts : List Int
  q : List Int
  befs : List (List Int)
def putBef (n : Int) (b : List (List Int)) (m : Int) : List (List Int) := if m = -1 then b else b.modify m.toNat (· ++ [n])
def iniStep (rows : List (List Int)) (ls : List Bool) (x : Ini) (n : Nat) : Ini :=
  { lefts := x.lefts ++ [((rows.getD n []).length : Int)]
    befs := (rows.getD n []).foldl (putBef n) x.befs
    vals := if ls.getD n false = true then x.vals.set n 0 else x.vals
    q := if ls.getD n false = true then x.q ++ [(n : Int)] else x.q }
def iniAll (rows : List (List Int)) (ls : List Bool) (n : Nat) : Ini := (List.range n).foldl (iniStep rows ls) ⟨List.replicate rows.length (-1), [], [], List.replicate rows.length []⟩
theorem iniAll_succ (rows : List (List Int)) (ls : List Bool) (n : Nat) : iniAll rows ls (n + 1) = iniStep rows ls (iniAll rows ls n) n := by
  simp [iniAll, List.range_succ]
def Ini.st (x : Ini) : St := ⟨x.vals, x.lefts, x.q⟩

/-- rows, sides, losses fit together -/
structure Fit (ss : List Int) (rows : List (List Int)) (ls : List Bool) : Prop where
  small : rows.length < 50
  ss : ss.length = rows.length
  ls : ls.length = rows.length
  row : ∀ r ∈ rows, r.length ≤ 2 ∧ ∀ m ∈ r, m = -1 ∨ (0 ≤ m ∧ m < (rows.length : Int))

def InN (N : Nat) (l : List Int) : Prop := ∀ x ∈ l, 0 ≤ x ∧ x < (N : Int)
def BefsOk (N : Nat) (befs : List (List Int)) : Prop := befs.length = N ∧ ∀ b ∈ befs, InN N b

theorem nodup_len : ∀ (N : Nat) (l : List Int), l.Nodup → InN N l → l.length ≤ N
  | 0, l, _, h => by
    cases l with
    | nil => simp
    | cons x r => have := h x (.head _); omega
  | N + 1, l, hd, h => by
    have h1 := nodup_len N (l.erase (N : Int)) (hd.erase _) (fun x hx => by
      have hx' := List.mem_of_mem_erase hx
      have hne : x ≠ (N : Int) := fun e => by rw [e] at hx; exact (hd.not_mem_erase hx)
      have := h x hx'
      omega)
    by_cases hm : (N : Int) ∈ l
    · rw [List.length_erase_of_mem hm] at h1; omega
    · rw [List.erase_of_not_mem hm] at h1; omega

structure RunOk (N : Nat) (st : St) : Prop where
  vals : st.vals.length = N
  lefts : st.lefts.length = N
  q : ∀ x ∈ st.q, 0 ≤ x ∧ x < (N : Int) ∧ 0 ≤ st.vals.getD x.toNat 0
  nodup : st.q.Nodup
theorem RunOk.len {N : Nat} {st : St} (h : RunOk N st) : st.q.length ≤ N := nodup_len N _ h.nodup fun x hx => ⟨(h.q x hx).1, (h.q x hx).2.1⟩

theorem getD_set_ne {l : List Int} {i j : Nat} {v d : Int} (h : i ≠ j) : (l.set i v).getD j d = l.getD j d := by
  simp [List.getD_eq_getElem?_getD, List.getElem?_set_ne h]
theorem getD_set_self {l : List Int} {i : Nat} {v d : Int} (h : i < l.length) : (l.set i v).getD i d = v := by
  simp [List.getD_eq_getElem?_getD, h]

theorem relax_ok {N : Nat} {ss : List Int} {m : Int} {st : St} {n : Int} (h : RunOk N st) (hm : 0 ≤ st.vals.getD m.toNat 0) (hn : 0 ≤ n ∧ n < (N : Int)) :
    RunOk N (relax ss m st n) ∧ 0 ≤ (relax ss m st n).vals.getD m.toNat 0 := by
  unfold relax
  split
  · rename_i hc
    have hnm : n.toNat ≠ m.toNat := fun e => by rw [e] at hc; omega
    refine ⟨⟨by simp [h.vals], by simp [h.lefts], ?_, ?_⟩, ?_⟩
    · intro x hx
      dsimp only at hx ⊢
      rcases List.mem_append.mp hx with hx | hx
      · have := h.q x hx
        refine ⟨this.1, this.2.1, ?_⟩
        have hne : n.toNat ≠ x.toNat := fun e => by rw [e] at hc; omega
        rw [getD_set_ne hne]; exact this.2.2
      · obtain rfl := List.mem_singleton.mp hx
        refine ⟨hn.1, hn.2, ?_⟩
        rw [getD_set_self (by rw [h.vals]; omega)]; omega
    · rw [List.nodup_append]
      refine ⟨h.nodup, by simp, fun a ha b hb e => ?_⟩
      obtain rfl := List.mem_singleton.mp hb
      have := h.q a ha
      rw [e] at this
      omega
    · dsimp only
      rw [getD_set_ne hnm]; exact hm
  · exact ⟨⟨h.vals, by simp [h.lefts], h.q, h.nodup⟩, hm⟩

theorem foldl_relax_ok {N : Nat} {ss : List Int} {m : Int} : ∀ (l : List Int) {st : St}, RunOk N st → 0 ≤ st.vals.getD m.toNat 0 → InN N l → RunOk N (l.foldl (relax ss m) st) ∧ 0 ≤ (l.foldl (relax ss m) st).vals.getD m.toNat 0
  | [], _, h, hm, _ => ⟨h, hm⟩
  | x :: r, st, h, hm, hl => by
    obtain ⟨h1, h2⟩ := relax_ok (ss := ss) h hm (hl x (.head _))
    exact foldl_relax_ok r h1 h2 fun y hy => hl y (.tail _ hy)
theorem getD_ok {N : Nat} {befs : List (List Int)} (hb : BefsOk N befs) (i : Nat) : InN N (befs.getD i []) := by
  rw [List.getD_eq_getElem?_getD]
  cases e : befs[i]? with
  | none => intro x hx; cases hx
  | some b => exact hb.2 b (List.mem_of_getElem? e)
theorem runS_ok {N : Nat} {ss : List Int} {befs : List (List Int)} {st0 : St} (h0 : RunOk N st0) (hb : BefsOk N befs) : ∀ a, (∀ a', a' < a → a' < (runS ss befs st0 a').q.length) → RunOk N (runS ss befs st0 a)
  | 0, _ => h0
  | a + 1, ha => by
    have h1 := runS_ok h0 hb a fun a' h => ha a' (Nat.lt_succ_of_lt h)
    have hlt := ha a (Nat.lt_succ_self a)
    have hmem : (runS ss befs st0 a).q.getD a 0 ∈ (runS ss befs st0 a).q := by
      rw [List.getD_eq_getElem?_getD, List.getElem?_eq_getElem hlt]; exact List.getElem_mem hlt
    exact (foldl_relax_ok _ h1 (h1.q _ hmem).2.2 (getD_ok hb _)).1

theorem putBef_ok {N : Nat} {n m : Int} {b : List (List Int)} (hn : 0 ≤ n ∧ n < (N : Int)) (hb : BefsOk N b) : BefsOk N (putBef n b m) := by
  unfold putBef
  split
  · exact hb
  · refine ⟨by rw [List.length_modify]; exact hb.1, fun c hc => ?_⟩
    obtain ⟨i, hi, rfl⟩ := List.mem_iff_getElem.mp hc
    rw [List.getElem_modify]
    split
    · intro x hx
      rcases List.mem_append.mp hx with hx | hx
      · exact hb.2 _ (List.getElem_mem _) x hx
      · rw [List.mem_singleton.mp hx]; exact hn
    · exact hb.2 _ (List.getElem_mem _)
theorem foldl_putBef_ok {N : Nat} {n : Int} (hn : 0 ≤ n ∧ n < (N : Int)) : ∀ (r : List Int) {b : List (List Int)}, BefsOk N b → BefsOk N (r.foldl (putBef n) b)
  | [], _, h => h
  | _ :: r, _, h => foldl_putBef_ok hn r (putBef_ok hn h)

structure IniOk (N k : Nat) (x : Ini) : Prop where
  vals : x.vals.length = N
  lefts : x.lefts.length = k
  q : ∀ y ∈ x.q, 0 ≤ y ∧ y < (k : Int) ∧ 0 ≤ x.vals.getD y.toNat 0
  nodup : x.q.Nodup
  befs : BefsOk N x.befs
theorem iniAll_ok (rows : List (List Int)) (ls : List Bool) : ∀ k, k ≤ rows.length → IniOk rows.length k (iniAll rows ls k)
  | 0, _ => ⟨by simp [iniAll], by simp [iniAll], fun y hy => (nomatch hy), by simp [iniAll], ⟨by simp [iniAll], fun b hb => by
      rw [List.eq_of_mem_replicate hb]; intro x hx; cases hx⟩⟩
  | k + 1, hk => by
    have h := iniAll_ok rows ls k (by omega)
    rw [iniAll_succ]
    refine ⟨?_, by simp [iniStep, h.lefts], ?_, ?_, foldl_putBef_ok (by omega) _ h.befs⟩
    · simp only [iniStep]; split <;> simp [h.vals]
    · intro y hy
      simp only [iniStep] at hy ⊢
      split at hy
      · rename_i hl
        rw [if_pos hl]
        rcases List.mem_append.mp hy with hy | hy
        · have := h.q y hy
          refine ⟨this.1, by omega, ?_⟩
          rw [getD_set_ne (by omega)]; exact this.2.2
        · obtain rfl := List.mem_singleton.mp hy
          refine ⟨by omega, by omega, ?_⟩
          rw [show ((k : Nat) : Int).toNat = k by omega, getD_set_self (by rw [h.vals]; omega)]; exact Int.le_refl _
      · rename_i hl
        rw [if_neg hl]
        have := h.q y hy
        exact ⟨this.1, by omega, this.2.2⟩
    · simp only [iniStep]
      split
      · rw [List.nodup_append]
        refine ⟨h.nodup, by simp, fun a ha b hb e => ?_⟩
        obtain rfl := List.mem_singleton.mp hb
        have := h.q a ha
        omega
      · exact h.nodup
theorem iniAll_run (rows : List (List Int)) (ls : List Bool) : RunOk rows.length (iniAll rows ls rows.length).st := by
  have h := iniAll_ok rows ls rows.length (Nat.le_refl _)
  exact ⟨h.vals, h.lefts, h.q, h.nodup⟩
def LenLe (k : Nat) (b : List (List Int)) : Prop := ∀ c ∈ b, c.length ≤ k
theorem putBef_len {k : Nat} {n m : Int} {b : List (List Int)} (hb : LenLe k b) : LenLe (k + 1) (putBef n b m) := by
  unfold putBef
  split
  · exact fun c hc => Nat.le_succ_of_le (hb c hc)
  · intro c hc
    obtain ⟨i, hi, rfl⟩ := List.mem_iff_getElem.mp hc
    rw [List.getElem_modify]
    split
    · have := hb _ (List.getElem_mem (l := b) (n := i) (by simpa using hi)); simp; omega
    · have := hb _ (List.getElem_mem (l := b) (n := i) (by simpa using hi)); omega
theorem foldl_putBef_len {n : Int} : ∀ (r : List Int) {k : Nat} {b : List (List Int)}, LenLe k b → LenLe (k + r.length) (r.foldl (putBef n) b)
  | [], _, _, h => h
  | m :: r, k, b, h => by
    have h1 : LenLe (k + 1 + r.length) (r.foldl (putBef n) (putBef n b m)) := foldl_putBef_len r (putBef_len h)
    simp only [List.foldl_cons, List.length_cons]
    rw [show k + (r.length + 1) = k + 1 + r.length by omega]
    exact h1
theorem iniAll_len (rows : List (List Int)) (ls : List Bool) (hr : ∀ r ∈ rows, r.length ≤ 2) : ∀ k, LenLe (2 * k) (iniAll rows ls k).befs
  | 0 => by
    intro c hc
    simp only [iniAll, List.range_zero, List.foldl_nil] at hc
    rw [List.eq_of_mem_replicate hc]; simp
  | k + 1 => by
    have h := iniAll_len rows ls hr k
    rw [iniAll_succ]
    have h2 := foldl_putBef_len (n := (k : Int)) (rows.getD k []) h
    have h3 : (rows.getD k []).length ≤ 2 := by
      rw [List.getD_eq_getElem?_getD]
      cases e : rows[k]? with
      | none => simp
      | some r => exact hr r (List.mem_of_getElem? e)
    exact fun c hc => Nat.le_trans (h2 c hc) (by omega)
theorem lenLe_getD {k : Nat} {b : List (List Int)} (h : LenLe k b) (i : Nat) : (b.getD i []).length ≤ k := by
  rw [List.getD_eq_getElem?_getD]
  cases e : b[i]? with
  | none => simp
  | some r => exact h r (List.mem_of_getElem? e)
theorem relax_mono {ss : List Int} {m : Int} {st : St} {n : Int} : st.q.length ≤ (relax ss m st n).q.length := by
  unfold relax; split <;> simp
theorem foldl_relax_mono {ss : List Int} {m : Int} : ∀ (l : List Int) {st : St}, st.q.length ≤ (l.foldl (relax ss m) st).q.length
  | [], _ => Nat.le_refl _
  | _ :: r, _ => Nat.le_trans relax_mono (foldl_relax_mono r)
end Mine
namespace Mine
def afterF (rows : List (List Int)) (p : Int) : List Int := rows.getD p.toNat []
def lostF (ls : List Bool) (p : Int) : Bool := ls.getD p.toNat false
def goalsOf (D : Nat) (after : Int → List Int) (p : Int) (k : Nat) : List Int := if k < D ∧ p ≠ -1 then after p else []
structure GS where
  nodes : List (Int × Nat)
  kids : List (List Int)
def gStep (D : Nat) (after : Int → List Int) (g : GS) (x : Int × Nat) : GS :=
  ⟨g.nodes ++ (goalsOf D after x.1 x.2).map (fun q => (q, x.2 + 1)), g.kids ++ [(List.range (goalsOf D after x.1 x.2).length).map fun j => ((g.nodes.length + j : Nat) : Int)]⟩
def gRun (D : Nat) (after : Int → List Int) (root : Int) : Nat → GS
  | 0 => ⟨[(root, 0)], []⟩
  | a + 1 => gStep D after (gRun D after root a) ((gRun D after root a).nodes.getD a (-1, 0))
def pot : Nat → Nat
  | 0 => 0
  | r + 1 => 2 * (1 + pot r)
def potSum (D : Nat) (l : List (Int × Nat)) : Nat := (l.map fun x => pot (D - x.2)).sum
theorem potSum_append {D : Nat} {a b : List (Int × Nat)} : potSum D (a ++ b) = potSum D a + potSum D b := by simp [potSum]
theorem potSum_goals {D k : Nat} (hk : k < D) : ∀ (l : List Int), potSum D (l.map fun q => (q, k + 1)) = l.length * pot (D - (k + 1))
  | [] => by simp [potSum]
  | x :: r => by
    have := potSum_goals hk r
    simp only [potSum, List.map_cons, List.sum_cons, List.length_cons] at this ⊢
    rw [this, Nat.succ_mul]; omega
structure GOk (D : Nat) (after : Int → List Int) (lost : Int → Bool) (P : Int → Prop) (a : Nat) (g : GS) : Prop where
  kids : g.kids.length = a
  le : a ≤ g.nodes.length
  pot : g.nodes.length + potSum D (g.nodes.drop a) ≤ 1 + pot D
  ply : ∀ x ∈ g.nodes, x.2 ≤ D ∧ P x.1
  done : ∀ (i : Nat) (p : Int) (k : Nat), i < a → g.nodes[i]? = some (p, k) → ∃ row, g.kids[i]? = some row ∧ row.length ≤ 2 ∧ (p = -1 → row = []) ∧ (k = D → row = []) ∧
    (p ≠ -1 → k < D → row.length = (after p).length ∧ ∀ (j : Nat) (q : Int), (after p)[j]? = some q → ∃ c : Nat, row[j]? = some (c : Int) ∧ g.nodes[c]? = some (q, k + 1))
theorem gRun_ok {D : Nat} {after : Int → List Int} {lost : Int → Bool} {P : Int → Prop} {root : Int} (hr : P root) (haf : ∀ p, P p → p ≠ -1 → (after p).length ≤ 2 ∧ ∀ q ∈ after p, P q) :
    ∀ a, (∀ a', a' < a → a' < (gRun D after root a').nodes.length) → GOk D after lost P a (gRun D after root a) ∧ (gRun D after root a).nodes[0]? = some (root, 0)
  | 0, _ => ⟨⟨rfl, Nat.zero_le _, by simp [gRun, potSum], fun x hx => by
      simp only [gRun, List.mem_singleton] at hx; subst hx; exact ⟨Nat.zero_le _, hr⟩, fun i p k h => absurd h (Nat.not_lt_zero _)⟩, rfl⟩
  | a + 1, ha => by
    obtain ⟨h, h0⟩ := gRun_ok (D := D) (lost := lost) hr haf a fun a' e => ha a' (Nat.lt_succ_of_lt e)
    have hlt := ha a (Nat.lt_succ_self a)
    obtain ⟨x, hx⟩ : ∃ x, (gRun D after root a).nodes[a]? = some x := ⟨_, List.getElem?_eq_getElem hlt⟩
    have hxd : (gRun D after root a).nodes.getD a (-1, 0) = x := by rw [List.getD_eq_getElem?_getD, hx]; rfl
    simp only [gRun, hxd]
    generalize gRun D after root a = g at *
    obtain ⟨p, k⟩ := x
    obtain ⟨hkD, hP⟩ := h.ply (p, k) (List.mem_of_getElem? hx)
    have hg2 : (goalsOf D after p k).length ≤ 2 := by
      unfold goalsOf; split
      · rename_i hc; exact (haf p hP hc.2).1
      · simp
    have hdrop : g.nodes.drop a = (p, k) :: g.nodes.drop (a + 1) := by
      rw [List.getElem?_eq_getElem hlt] at hx
      rw [List.drop_eq_getElem_cons hlt, Option.some.inj hx]
    have hpot := h.pot
    rw [hdrop] at hpot
    have hps : potSum D ((p, k) :: g.nodes.drop (a + 1)) = pot (D - k) + potSum D (g.nodes.drop (a + 1)) := by simp [potSum]
    rw [hps] at hpot
    have hgp : (goalsOf D after p k).length + potSum D ((goalsOf D after p k).map fun q => (q, k + 1)) ≤ pot (D - k) := by
      by_cases hc : k < D
      · rw [potSum_goals hc]
        obtain ⟨r, hr'⟩ : ∃ r, D - k = r + 1 := ⟨D - k - 1, by omega⟩
        rw [hr', show D - (k + 1) = r by omega, pot]
        have : (goalsOf D after p k).length * (1 + pot r) ≤ 2 * (1 + pot r) := Nat.mul_le_mul_right _ hg2
        rw [Nat.mul_add] at this; omega
      · simp [goalsOf, hc, potSum]
    refine ⟨⟨by simp [gStep, h.kids], by simp only [gStep, List.length_append]; omega, ?_, ?_, ?_⟩, ?_⟩
    · simp only [gStep]
      rw [List.drop_append_of_le_length (by omega), potSum_append, List.length_append, List.length_map]
      omega
    · intro y hy
      simp only [gStep] at hy
      rcases List.mem_append.mp hy with hy | hy
      · exact h.ply y hy
      · obtain ⟨q, hq, rfl⟩ := List.mem_map.mp hy
        unfold goalsOf at hq
        split at hq
        · rename_i hc
          exact ⟨hc.1, (haf p hP hc.2).2 q hq⟩
        · cases hq
    · intro i p' k' hi hn
      simp only [gStep] at hn ⊢
      by_cases hia : i < a
      · rw [List.getElem?_append_left (by omega)] at hn
        obtain ⟨row, r1, r2, r3, r4, r5⟩ := h.done i p' k' hia hn
        refine ⟨row, by rw [List.getElem?_append_left (by rw [h.kids]; exact hia)]; exact r1, r2, r3, r4, fun e1 e2 => ⟨(r5 e1 e2).1, fun j q hj => ?_⟩⟩
        obtain ⟨c, c1, c2⟩ := (r5 e1 e2).2 j q hj
        exact ⟨c, c1, by rw [List.getElem?_append_left (List.getElem?_eq_some_iff.mp c2).1]; exact c2⟩
      · obtain rfl : i = a := by omega
        rw [List.getElem?_append_left hlt, hx] at hn
        cases hn
        refine ⟨_, by rw [List.getElem?_append_right (by rw [h.kids]; exact Nat.le_refl _), h.kids, Nat.sub_self]; rfl, by simpa using hg2, fun e => by simp [goalsOf, e], fun e => by simp [goalsOf, e], fun e1 e2 => ?_⟩
        have hgo : goalsOf D after p k = after p := by simp [goalsOf, e1, e2]
        rw [hgo]
        refine ⟨by simp, fun j q hj => ⟨g.nodes.length + j, ?_, ?_⟩⟩
        · have hjl := (List.getElem?_eq_some_iff.mp hj).1
          rw [List.getElem?_map, List.getElem?_range hjl]; rfl
        · rw [List.getElem?_append_right (by omega), Nat.add_sub_cancel_left, List.getElem?_map, hj]; rfl
    · simp only [gStep]
      rw [List.getElem?_append_left (by omega)]; exact h0
theorem pot_four : ∀ D, D ≤ 4 → pot D ≤ 30
  | 0, _ => by decide
  | 1, _ => by decide
  | 2, _ => by decide
  | 3, _ => by decide
  | 4, _ => by decide
  | n + 5, h => by omega
theorem gRun_len {D : Nat} {after : Int → List Int} {lost : Int → Bool} {P : Int → Prop} {a : Nat} {g : GS} (hD : D ≤ 4) (h : GOk D after lost P a g) : g.nodes.length ≤ 31 := by
  have := h.pot; have := pot_four D hD; omega
theorem gRun_tree {D : Nat} {after : Int → List Int} {lost : Int → Bool} {P : Int → Prop} {a : Nat} {g : GS} (hD : D ≤ 4) (h : GOk D after lost P a g) (ha : a = g.nodes.length) :
    TreeOk after lost D g.nodes g.kids (g.nodes.map fun x => x.1 != -1 && lost x.1) (g.nodes.map fun x => x.1 == -1) := by
  refine ⟨by have := gRun_len hD h; omega, fun i p k hi => ⟨by simp [hi], by simp [hi], ?_⟩⟩
  have hl := (List.getElem?_eq_some_iff.mp hi).1
  exact h.done i p k (by omega) hi
end Mine
namespace Mine
def V (st : St) (n : Int) : Int := st.vals.getD n.toNat 0
def Lf (st : St) (n : Int) : Int := st.lefts.getD n.toNat 0
def sideF (ss : List Int) (n : Int) : Int := ss.getD n.toNat 0

theorem putBef_getD {n m : Int} {b : List (List Int)} {i : Nat} (hi : i < b.length) (hm : m = -1 ∨ 0 ≤ m) : (putBef n b m).getD i [] = if m = (i : Int) then b.getD i [] ++ [n] else b.getD i [] := by
  unfold putBef
  by_cases h : m = -1
  · rw [if_pos h, if_neg (by omega)]
  · rw [if_neg h]
    by_cases h2 : m = (i : Int)
    · subst h2
      rw [if_pos rfl, List.getD_eq_getElem?_getD, List.getD_eq_getElem?_getD, Int.toNat_natCast, List.getElem?_modify_eq, List.getElem?_eq_getElem hi]
      rfl
    · rw [if_neg h2, List.getD_eq_getElem?_getD, List.getD_eq_getElem?_getD, List.getElem?_modify_ne _ _ (by omega)]
theorem putBef_length {n m : Int} {b : List (List Int)} : (putBef n b m).length = b.length := by
  unfold putBef; split
  · rfl
  · exact List.length_modify ..
theorem foldl_putBef_count {n : Int} {i : Nat} (y : Int) : ∀ (r : List Int) {b : List (List Int)}, (∀ m ∈ r, m = -1 ∨ 0 ≤ m) → i < b.length →
    ((r.foldl (putBef n) b).getD i []).count y = (b.getD i []).count y + (if y = n then r.count (i : Int) else 0)
  | [], b, _, _ => by simp
  | m :: r, b, hr, hi => by
    rw [List.foldl_cons, foldl_putBef_count y r (fun x hx => hr x (.tail _ hx)) (by rw [putBef_length]; exact hi), putBef_getD hi (hr m (.head _))]
    by_cases h : m = (i : Int)
    · subst h
      rw [if_pos rfl, List.count_append, List.count_cons_self]
      by_cases hy : y = n
      · subst hy
        simp; omega
      · rw [if_neg hy, if_neg hy, List.count_singleton, if_neg (by simpa using fun e => hy e.symm)]
    · rw [if_neg h, List.count_cons_of_ne h]
theorem iniAll_count (rows : List (List Int)) (ls : List Bool) (hr : ∀ r ∈ rows, ∀ m ∈ r, m = -1 ∨ 0 ≤ m) {i : Nat} (hi : i < rows.length) (n : Nat) : ∀ k, k ≤ rows.length →
    ((iniAll rows ls k).befs.getD i []).count (n : Int) = if n < k then (rows.getD n []).count (i : Int) else 0
  | 0, _ => by
    simp [iniAll, List.getD_eq_getElem?_getD, List.getElem?_replicate, hi]
  | k + 1, hk => by
    rw [iniAll_succ]
    simp only [iniStep]
    have hrow : ∀ m ∈ rows.getD k [], m = -1 ∨ 0 ≤ m := by
      rw [List.getD_eq_getElem?_getD, List.getElem?_eq_getElem (by omega)]
      exact hr _ (List.getElem_mem _)
    rw [foldl_putBef_count _ _ hrow (by rw [(iniAll_ok rows ls k (by omega)).befs.1]; exact hi), iniAll_count rows ls hr hi n k (by omega)]
    by_cases h : n = k
    · subst h
      rw [if_neg (Nat.lt_irrefl _), if_pos rfl, if_pos (Nat.lt_succ_self _), Nat.zero_add]
    · rw [if_neg (show ¬ (n : Int) = (k : Int) by omega), Nat.add_zero]
      by_cases h2 : n < k
      · rw [if_pos h2, if_pos (by omega)]
      · rw [if_neg h2, if_neg (by omega)]
theorem iniAll_lefts (rows : List (List Int)) (ls : List Bool) (n : Nat) : ∀ k, k ≤ rows.length → n < k → (iniAll rows ls k).lefts.getD n 0 = ((rows.getD n []).length : Int)
  | 0, _, h => absurd h (Nat.not_lt_zero _)
  | k + 1, hk, h => by
    rw [iniAll_succ]
    simp only [iniStep]
    have hl := (iniAll_ok rows ls k (by omega)).lefts
    rw [List.getD_eq_getElem?_getD]
    by_cases e : n = k
    · subst e
      rw [List.getElem?_append_right (by omega), hl, Nat.sub_self]; rfl
    · rw [List.getElem?_append_left (by omega), ← List.getD_eq_getElem?_getD]
      exact iniAll_lefts rows ls n k (by omega) (by omega)
theorem iniAll_q (rows : List (List Int)) (ls : List Bool) (y : Int) : ∀ k, (y ∈ (iniAll rows ls k).q ↔ ∃ n : Nat, y = n ∧ n < k ∧ ls.getD n false = true)
  | 0 => by simp [iniAll]
  | k + 1 => by
    rw [iniAll_succ]
    simp only [iniStep]
    by_cases h : ls.getD k false = true
    · rw [if_pos h, List.mem_append, iniAll_q rows ls y k, List.mem_singleton]
      constructor
      · rintro (⟨n, a, b, c⟩ | e)
        · exact ⟨n, a, by omega, c⟩
        · exact ⟨k, e, by omega, h⟩
      · rintro ⟨n, a, b, c⟩
        by_cases e : n = k
        · exact .inr (by rw [a, e])
        · exact .inl ⟨n, a, by omega, c⟩
    · rw [if_neg h, iniAll_q rows ls y k]
      constructor
      · rintro ⟨n, a, b, c⟩
        exact ⟨n, a, by omega, c⟩
      · rintro ⟨n, a, b, c⟩
        have e : n ≠ k := fun e => h (e ▸ c)
        exact ⟨n, a, by omega, c⟩
theorem iniAll_vals (rows : List (List Int)) (ls : List Bool) (n : Nat) (hn : n < rows.length) : ∀ k, k ≤ rows.length → (iniAll rows ls k).vals.getD n 0 = if n < k ∧ ls.getD n false = true then 0 else -1
  | 0, _ => by
    simp [iniAll, List.getD_eq_getElem?_getD, List.getElem?_replicate, hn]
  | k + 1, hk => by
    rw [iniAll_succ]
    simp only [iniStep]
    have hl := (iniAll_ok rows ls k (by omega)).vals
    have ih := iniAll_vals rows ls n hn k (by omega)
    by_cases h : ls.getD k false = true
    · rw [if_pos h]
      by_cases e : n = k
      · subst e
        rw [getD_set_self (by omega), if_pos ⟨by omega, h⟩]
      · rw [getD_set_ne (fun x => e x.symm), ih]
        by_cases c : n < k ∧ ls.getD n false = true
        · rw [if_pos c, if_pos ⟨by omega, c.2⟩]
        · rw [if_neg c, if_neg (fun x => c ⟨by omega, x.2⟩)]
    · rw [if_neg h, ih]
      by_cases c : n < k ∧ ls.getD n false = true
      · rw [if_pos c, if_pos ⟨by omega, c.2⟩]
      · rw [if_neg c, if_neg (fun x => c ⟨by
          have : n ≠ k := fun e => h (e ▸ x.2)
          omega, x.2⟩)]

theorem countP_split {m : Int} {P : List Int} (hm : m ∉ P) : ∀ (l : List Int), l.countP (fun x => decide (x ∉ P)) = l.count m + l.countP (fun x => decide (x ∉ P ++ [m]))
  | [] => rfl
  | x :: r => by
    have ih := countP_split hm r
    by_cases e : x = m
    · subst e
      rw [List.countP_cons_of_pos (by simpa using hm), List.count_cons_self, List.countP_cons_of_neg (by simp), ih]; omega
    · rw [List.count_cons_of_ne e]
      by_cases hx : x ∈ P
      · rw [List.countP_cons_of_neg (by simpa using hx), List.countP_cons_of_neg (by simp [hx]), ih]
      · rw [List.countP_cons_of_pos (by simpa using hx), List.countP_cons_of_pos (by simp [hx, e]), ih]; omega
theorem all_of_countP {m : Int} {P l : List Int} (hm : m ∉ P) (h : l.countP (fun x => decide (x ∉ P)) ≤ l.count m) : ∀ x ∈ l, x ∈ P ∨ x = m := by
  have h0 : l.countP (fun x => decide (x ∉ P ++ [m])) = 0 := by have := countP_split hm l; omega
  intro x hx
  have := List.countP_eq_zero.mp h0 x hx
  simp only [decide_eq_true_eq, Decidable.not_not] at this
  simpa using this

structure Core (ss : List Int) (rows : List (List Int)) (ls : List Bool) (st : St) : Prop where
  run : RunOk rows.length st
  nd : ∀ n : Int, 0 ≤ n → n < (rows.length : Int) → n ∉ st.q → V st n = -1
  lost : ∀ n : Int, 0 ≤ n → n < (rows.length : Int) → lostF ls n = true → n ∈ st.q ∧ V st n = 0
  just : ∀ n ∈ st.q, lostF ls n = false → ∃ m ∈ afterF rows n, m ∈ st.q ∧ V st n = V st m + 1
  weakj : ∀ n ∈ st.q, sideF ss n ≠ 0 → ∀ m ∈ afterF rows n, m ∈ st.q ∧ V st m + 1 ≤ V st n
  wcomp : ∀ n : Int, 0 ≤ n → n < (rows.length : Int) → sideF ss n ≠ 0 → afterF rows n ≠ [] → Lf st n = 0 → n ∈ st.q
structure Turn (ss : List Int) (rows : List (List Int)) (ls : List Bool) (P : List Int) (m : Int) (R pre : List Int) (st : St) : Prop where
  core : Core ss rows ls st
  q : st.q = P ++ m :: R
  lo : ∀ x ∈ P, V st x ≤ V st m
  hi : ∀ y ∈ R, V st m ≤ V st y ∧ V st y ≤ V st m + 1
  sorted : R.Pairwise fun x y => V st x ≤ V st y
  sc : ∀ x ∈ P, ∀ n : Int, 0 ≤ n → n < (rows.length : Int) → x ∈ afterF rows n → sideF ss n = 0 → n ∈ st.q ∧ V st n ≤ V st x + 1
  sp : ∀ n ∈ pre, sideF ss n = 0 → n ∈ st.q
  lefts : ∀ n : Int, 0 ≤ n → n < (rows.length : Int) → Lf st n = ((afterF rows n).countP (fun x => decide (x ∉ P)) : Int) - (pre.count n : Nat)

theorem count_le_of_mem {α : Type} [BEq α] [LawfulBEq α] {x : α} {l : List α} (h : 0 < l.count x) : x ∈ l := List.count_pos_iff.mp h

theorem Turn.step {ss : List Int} {rows : List (List Int)} {ls : List Bool} {P : List Int} {m : Int} {R pre : List Int} {st : St} (T : Turn ss rows ls P m R pre st) {n : Int} (hn : 0 ≤ n ∧ n < (rows.length : Int))
    (hc : (pre ++ [n]).count n ≤ (afterF rows n).count m) (hlost : lostF ls n = true → afterF rows n = []) : ∃ R', Turn ss rows ls P m R' (pre ++ [n]) (relax ss m st n) := by
  have hrun := T.core.run
  have hmq : m ∈ st.q := by rw [T.q]; simp
  have hm := hrun.q m hmq
  have hmP : m ∉ P := fun h => by
    have := hrun.nodup
    rw [T.q, List.nodup_append] at this
    exact this.2.2 m h m (.head _) rfl
  have hPq : ∀ x ∈ P, x ∈ st.q := fun x hx => by rw [T.q]; simp [hx]
  have hma : m ∈ afterF rows n := count_le_of_mem (by
    rw [List.count_append, List.count_singleton_self] at hc; omega)
  obtain ⟨r1, r2⟩ := relax_ok (ss := ss) hrun hm.2.2 hn
  have hnl : n.toNat < st.lefts.length := by rw [hrun.lefts]; omega
  have hnv : n.toNat < st.vals.length := by rw [hrun.vals]; omega
  have hlf := T.lefts n hn.1 hn.2
  rw [List.count_append, List.count_singleton_self] at hc
  by_cases hcond : V st n = -1 ∧ (sideF ss n = 0 ∨ Lf st n - 1 = 0)
  · have hnq : n ∉ st.q := fun h => by have := (hrun.q n h).2.2; rw [V] at hcond; omega
    have e : relax ss m st n = ⟨st.vals.set n.toNat (V st m + 1), st.lefts.set n.toNat (Lf st n - 1), st.q ++ [n]⟩ := by
      rw [relax, if_pos (show st.vals.getD n.toNat 0 = -1 ∧ (ss.getD n.toNat 0 = 0 ∨ st.lefts.getD n.toNat 0 - 1 = 0) from hcond)]; rfl
    generalize hst' : relax ss m st n = st' at *
    subst e
    have vn : V ⟨st.vals.set n.toNat (V st m + 1), st.lefts.set n.toNat (Lf st n - 1), st.q ++ [n]⟩ n = V st m + 1 := getD_set_self hnv
    have vo : ∀ x : Int, 0 ≤ x → x ≠ n → V ⟨st.vals.set n.toNat (V st m + 1), st.lefts.set n.toNat (Lf st n - 1), st.q ++ [n]⟩ x = V st x := fun x h0 h => getD_set_ne (by omega)
    have vq : ∀ x ∈ st.q, V ⟨st.vals.set n.toNat (V st m + 1), st.lefts.set n.toNat (Lf st n - 1), st.q ++ [n]⟩ x = V st x := fun x hx => vo x (hrun.q x hx).1 (fun h => hnq (h ▸ hx))
    have lfn : Lf ⟨st.vals.set n.toNat (V st m + 1), st.lefts.set n.toNat (Lf st n - 1), st.q ++ [n]⟩ n = Lf st n - 1 := getD_set_self hnl
    have lfo : ∀ x : Int, 0 ≤ x → x ≠ n → Lf ⟨st.vals.set n.toNat (V st m + 1), st.lefts.set n.toNat (Lf st n - 1), st.q ++ [n]⟩ x = Lf st x := fun x h0 h => getD_set_ne (by omega)
    generalize hS : (⟨st.vals.set n.toNat (V st m + 1), st.lefts.set n.toNat (Lf st n - 1), st.q ++ [n]⟩ : St) = S at *
    have qS : S.q = st.q ++ [n] := by rw [← hS]
    have mono : ∀ x ∈ st.q, x ∈ S.q := fun x hx => by rw [qS]; simp [hx]
    have cases : ∀ x ∈ S.q, x ∈ st.q ∨ x = n := fun x hx => by rw [qS] at hx; simpa using hx
    have nS : n ∈ S.q := by rw [qS]; simp
    have hwk : sideF ss n ≠ 0 → ∀ x ∈ afterF rows n, x ∈ P ∨ x = m := fun hw => all_of_countP hmP (by
      rcases hcond.2 with h | h
      · exact absurd h hw
      · omega)
    have nlost : lostF ls n = false := by
      cases h : lostF ls n with
      | false => rfl
      | true => exact absurd (T.core.lost n hn.1 hn.2 h).1 hnq
    refine ⟨R ++ [n], ⟨r1, ?_, ?_, ?_, ?_, ?_⟩, ?_, ?_, ?_, ?_, ?_, ?_, ?_⟩
    · intro x h0 h1 hx
      have hxn : x ≠ n := fun h => hx (h ▸ nS)
      rw [vo x h0 hxn]
      exact T.core.nd x h0 h1 fun h => hx (mono x h)
    · intro x h0 h1 hl
      obtain ⟨a, b⟩ := T.core.lost x h0 h1 hl
      exact ⟨mono x a, by rw [vq x a]; exact b⟩
    · intro x hx hl
      rcases cases x hx with h | rfl
      · obtain ⟨y, a, b, c⟩ := T.core.just x h hl
        exact ⟨y, a, mono y b, by rw [vq x h, vq y b]; exact c⟩
      · exact ⟨m, hma, mono m hmq, by rw [vn, vq m hmq]⟩
    · intro x hx hw y hy
      rcases cases x hx with h | rfl
      · obtain ⟨b, c⟩ := T.core.weakj x h hw y hy
        exact ⟨mono y b, by rw [vq x h, vq y b]; exact c⟩
      · rcases hwk hw y hy with h | rfl
        · exact ⟨mono y (hPq y h), by rw [vq y (hPq y h), vn]; have := T.lo y h; omega⟩
        · exact ⟨mono y hmq, by rw [vq y hmq, vn]; exact Int.le_refl _⟩
    · intro x h0 h1 hw ha hl
      by_cases h : x = n
      · exact h ▸ nS
      · rw [lfo x h0 h] at hl
        exact mono x (T.core.wcomp x h0 h1 hw ha hl)
    · rw [qS, T.q]; simp
    · intro x hx
      rw [vq x (hPq x hx), vq m hmq]; exact T.lo x hx
    · intro y hy
      rcases List.mem_append.mp hy with hy | hy
      · have hyq : y ∈ st.q := by rw [T.q]; simp [hy]
        rw [vq y hyq, vq m hmq]; exact T.hi y hy
      · rw [List.mem_singleton.mp hy, vn, vq m hmq]; omega
    · rw [List.pairwise_append]
      refine ⟨?_, List.pairwise_singleton _ _, ?_⟩
      · refine T.sorted.imp_of_mem fun {a b} ha hb h => ?_
        rw [vq a (by rw [T.q]; simp [ha]), vq b (by rw [T.q]; simp [hb])]; exact h
      · intro a ha b hb
        rw [List.mem_singleton.mp hb, vn, vq a (by rw [T.q]; simp [ha])]
        exact (T.hi a ha).2
    · intro x hx y h0 h1 hy hs
      obtain ⟨a, b⟩ := T.sc x hx y h0 h1 hy hs
      exact ⟨mono y a, by rw [vq y a, vq x (hPq x hx)]; exact b⟩
    · intro x hx hs
      rcases List.mem_append.mp hx with hx | hx
      · exact mono x (T.sp x hx hs)
      · rw [List.mem_singleton.mp hx]; exact nS
    · intro x h0 h1
      by_cases h : x = n
      · subst h
        rw [lfn, hlf, List.count_append, List.count_singleton_self]; omega
      · rw [lfo x h0 h, T.lefts x h0 h1, List.count_append, List.count_singleton, if_neg (by simpa using fun e => h e.symm)]; omega
  · have e : relax ss m st n = ⟨st.vals, st.lefts.set n.toNat (Lf st n - 1), st.q⟩ := by
      rw [relax, if_neg (show ¬ (st.vals.getD n.toNat 0 = -1 ∧ (ss.getD n.toNat 0 = 0 ∨ st.lefts.getD n.toNat 0 - 1 = 0)) from hcond)]; rfl
    generalize hst' : relax ss m st n = st' at *
    subst e
    have lfn : Lf ⟨st.vals, st.lefts.set n.toNat (Lf st n - 1), st.q⟩ n = Lf st n - 1 := getD_set_self hnl
    have lfo : ∀ x : Int, 0 ≤ x → x ≠ n → Lf ⟨st.vals, st.lefts.set n.toNat (Lf st n - 1), st.q⟩ x = Lf st x := fun x h0 h => getD_set_ne (by omega)
    have hnq : (sideF ss n = 0 ∨ Lf st n - 1 = 0) → n ∈ st.q := fun h => Decidable.byContradiction fun h2 => hcond ⟨T.core.nd n hn.1 hn.2 h2, h⟩
    refine ⟨R, ⟨r1, T.core.nd, T.core.lost, T.core.just, T.core.weakj, ?_⟩, T.q, T.lo, T.hi, T.sorted, T.sc, ?_, ?_⟩
    · intro x h0 h1 hw ha hl
      by_cases h : x = n
      · subst h
        rw [lfn] at hl
        exact hnq (.inr hl)
      · rw [lfo x h0 h] at hl
        exact T.core.wcomp x h0 h1 hw ha hl
    · intro x hx hs
      rcases List.mem_append.mp hx with hx | hx
      · exact T.sp x hx hs
      · rw [List.mem_singleton.mp hx] at hs ⊢
        exact hnq (.inl hs)
    · intro x h0 h1
      by_cases h : x = n
      · subst h
        rw [lfn, hlf, List.count_append, List.count_singleton_self]; omega
      · rw [lfo x h0 h, T.lefts x h0 h1, List.count_append, List.count_singleton, if_neg (by simpa using fun e => h e.symm)]; omega

theorem Turn.fold {ss : List Int} {rows : List (List Int)} {ls : List Bool} {P : List Int} {m : Int} (hlost : ∀ n, lostF ls n = true → afterF rows n = []) :
    ∀ (l : List Int) {R pre : List Int} {st : St}, Turn ss rows ls P m R pre st → (∀ n ∈ l, 0 ≤ n ∧ n < (rows.length : Int)) → (∀ n ∈ l, (pre ++ l).count n ≤ (afterF rows n).count m) →
      ∃ R', Turn ss rows ls P m R' (pre ++ l) (l.foldl (relax ss m) st)
  | [], R, pre, st, T, _, _ => ⟨R, by simpa using T⟩
  | n :: l, R, pre, st, T, hl, hc => by
    obtain ⟨R1, T1⟩ := T.step (hl n (.head _)) (Nat.le_trans (by
      rw [List.count_append, List.count_append, List.count_singleton_self, List.count_cons_self]; omega) (hc n (.head _))) (hlost n)
    obtain ⟨R2, T2⟩ := Turn.fold hlost l T1 (fun x hx => hl x (.tail _ hx)) (fun x hx => by
      rw [List.append_assoc]; exact hc x (.tail _ hx))
    exact ⟨R2, by rw [List.append_assoc] at T2; exact T2⟩

structure Oth (ss : List Int) (rows : List (List Int)) (ls : List Bool) (P R : List Int) (st : St) : Prop where
  core : Core ss rows ls st
  q : st.q = P ++ R
  lo : ∀ x ∈ P, ∀ y ∈ R, V st x ≤ V st y
  hi : ∀ x ∈ R, ∀ y ∈ R, V st x ≤ V st y + 1
  sorted : R.Pairwise fun x y => V st x ≤ V st y
  sc : ∀ x ∈ P, ∀ n : Int, 0 ≤ n → n < (rows.length : Int) → x ∈ afterF rows n → sideF ss n = 0 → n ∈ st.q ∧ V st n ≤ V st x + 1
  lefts : ∀ n : Int, 0 ≤ n → n < (rows.length : Int) → Lf st n = ((afterF rows n).countP (fun x => decide (x ∉ P)) : Int)

theorem Oth.step {ss : List Int} {rows : List (List Int)} {ls : List Bool} {P R : List Int} {m : Int} {st : St} {befs : List (List Int)} (O : Oth ss rows ls P (m :: R) st) (hlost : ∀ n, lostF ls n = true → afterF rows n = [])
    (hb : BefsOk rows.length befs) (hcnt : ∀ i n : Nat, i < rows.length → n < rows.length → (befs.getD i []).count (n : Int) = (rows.getD n []).count (i : Int)) : ∃ R', Oth ss rows ls (P ++ [m]) R' (procM ss befs st m) := by
  have hmq : m ∈ st.q := by rw [O.q]; simp
  have hm := O.core.run.q m hmq
  have hmP : m ∉ P := fun h => by
    have := O.core.run.nodup
    rw [O.q, List.nodup_append] at this
    exact this.2.2 m h m (.head _) rfl
  have hcnt' : ∀ n : Int, 0 ≤ n → n < (rows.length : Int) → (befs.getD m.toNat []).count n = (afterF rows n).count m := fun n h0 h1 => by
    have := hcnt m.toNat n.toNat (by omega) (by omega)
    rw [Int.toNat_of_nonneg h0, Int.toNat_of_nonneg hm.1] at this
    exact this
  have T0 : Turn ss rows ls P m R [] st := ⟨O.core, O.q, fun x hx => O.lo x hx m (.head _), fun y hy => ⟨(List.pairwise_cons.mp O.sorted).1 y hy, O.hi y (.tail _ hy) m (.head _)⟩, (List.pairwise_cons.mp O.sorted).2, O.sc, (fun _ h => nomatch h), fun n h0 h1 => by
    rw [O.lefts n h0 h1]; simp⟩
  obtain ⟨R', T⟩ := T0.fold hlost (befs.getD m.toNat []) (fun n hn => getD_ok hb m.toNat n hn) (fun n hn => by
    have := getD_ok hb m.toNat n hn
    rw [List.nil_append, hcnt' n this.1 this.2]; exact Nat.le_refl _)
  rw [List.nil_append] at T
  refine ⟨R', T.core, by rw [procM, T.q]; simp, ?_, ?_, T.sorted, ?_, ?_⟩
  · intro x hx y hy
    rcases List.mem_append.mp hx with hx | hx
    · exact Int.le_trans (T.lo x hx) (T.hi y hy).1
    · rw [List.mem_singleton.mp hx]; exact (T.hi y hy).1
  · intro x hx y hy
    have := T.hi x hx; have := T.hi y hy; unfold procM; omega
  · intro x hx n h0 h1 hxa hs
    rcases List.mem_append.mp hx with hx | hx
    · exact T.sc x hx n h0 h1 hxa hs
    · obtain rfl := List.mem_singleton.mp hx
      have hn : n ∈ befs.getD x.toNat [] := count_le_of_mem (by rw [hcnt' n h0 h1]; exact List.count_pos_iff.mpr hxa)
      have hq := T.sp n hn hs
      refine ⟨hq, ?_⟩
      rw [T.q] at hq
      unfold procM
      rcases List.mem_append.mp hq with h | h
      · have := T.lo n h; omega
      · rcases List.mem_cons.mp h with rfl | h
        · omega
        · exact (T.hi n h).2
  · intro n h0 h1
    have := T.lefts n h0 h1
    rw [hcnt' n h0 h1, countP_split hmP] at this
    unfold procM; omega

theorem run_out {ss : List Int} {rows : List (List Int)} {ls : List Bool} {befs : List (List Int)} {st0 : St} (hlost : ∀ n, lostF ls n = true → afterF rows n = [])
    (hb : BefsOk rows.length befs) (hcnt : ∀ i n : Nat, i < rows.length → n < rows.length → (befs.getD i []).count (n : Int) = (rows.getD n []).count (i : Int)) (O0 : ∃ R, Oth ss rows ls [] R st0) :
    ∀ a, (∀ a', a' < a → a' < (runS ss befs st0 a').q.length) → ∃ P R, P.length = a ∧ Oth ss rows ls P R (runS ss befs st0 a)
  | 0, _ => let ⟨R, O⟩ := O0; ⟨[], R, rfl, O⟩
  | a + 1, ha => by
    obtain ⟨P, R, hl, O⟩ := run_out hlost hb hcnt O0 a fun a' h => ha a' (Nat.lt_succ_of_lt h)
    have hlt := ha a (Nat.lt_succ_self a)
    cases R with
    | nil => rw [O.q, List.append_nil, hl] at hlt; exact absurd hlt (Nat.lt_irrefl _)
    | cons m R =>
      have hm : (runS ss befs st0 a).q.getD a 0 = m := by
        rw [O.q, List.getD_eq_getElem?_getD, List.getElem?_append_right (by omega), hl, Nat.sub_self]; rfl
      obtain ⟨R', O'⟩ := O.step hlost hb hcnt
      exact ⟨P ++ [m], R', by simp [hl], by rw [runS, hm]; exact O'⟩

theorem ini_out {ss : List Int} {rows : List (List Int)} {ls : List Bool} (hl : ls.length = rows.length) (hlost : ∀ n, lostF ls n = true → afterF rows n = []) : ∃ R, Oth ss rows ls [] R (iniAll rows ls rows.length).st := by
  have hok := iniAll_run rows ls
  have hv : ∀ n : Int, 0 ≤ n → n < (rows.length : Int) → V (iniAll rows ls rows.length).st n = if lostF ls n = true then 0 else -1 := fun n h0 h1 => by
    have := iniAll_vals rows ls n.toNat (by omega) rows.length (Nat.le_refl _)
    rw [show V (iniAll rows ls rows.length).st n = (iniAll rows ls rows.length).vals.getD n.toNat 0 from rfl, this]
    have e : n.toNat < rows.length := by omega
    simp only [e, true_and]
    rfl
  have hq : ∀ n ∈ (iniAll rows ls rows.length).q, lostF ls n = true := fun n hn => by
    obtain ⟨k, rfl, _, h⟩ := (iniAll_q rows ls n rows.length).mp hn
    simpa [lostF] using h
  have hq0 : ∀ n ∈ (iniAll rows ls rows.length).q, V (iniAll rows ls rows.length).st n = 0 := fun n hn => by
    have := hok.q n hn
    rw [hv n this.1 this.2.1, if_pos (hq n hn)]
  have hq2 : ∀ n : Int, 0 ≤ n → n < (rows.length : Int) → lostF ls n = true → n ∈ (iniAll rows ls rows.length).q := fun n h0 h1 h =>
    (iniAll_q rows ls n rows.length).mpr ⟨n.toNat, by omega, by omega, h⟩
  have hlf : ∀ n : Int, 0 ≤ n → n < (rows.length : Int) → Lf (iniAll rows ls rows.length).st n = ((afterF rows n).length : Int) := fun n h0 h1 =>
    iniAll_lefts rows ls n.toNat rows.length (Nat.le_refl _) (by omega)
  refine ⟨(iniAll rows ls rows.length).q, ⟨hok, ?_, ?_, ?_, ?_, ?_⟩, rfl, (fun _ h => nomatch h), ?_, ?_, (fun _ h => nomatch h), ?_⟩
  · intro n h0 h1 h
    rw [hv n h0 h1, if_neg fun e => h (hq2 n h0 h1 e)]
  · intro n h0 h1 h
    exact ⟨hq2 n h0 h1 h, hq0 n (hq2 n h0 h1 h)⟩
  · intro n h e
    rw [hq n h] at e; cases e
  · intro n h _ m hm
    rw [hlost n (hq n h)] at hm; cases hm
  · intro n h0 h1 _ ha h
    rw [hlf n h0 h1] at h
    exact absurd (List.length_eq_zero_iff.mp (by omega)) ha
  · intro x hx y hy
    rw [hq0 x hx, hq0 y hy]; omega
  · refine List.Pairwise.imp_of_mem (R := fun _ _ => True) (fun {a b} ha hb _ => ?_) (List.pairwise_of_forall fun _ _ => trivial)
    rw [hq0 a ha, hq0 b hb]; exact Int.le_refl _
  · intro n h0 h1
    rw [hlf n h0 h1]
    simp

/-- what the table says -/
structure Table (ss : List Int) (rows : List (List Int)) (ls : List Bool) (val : Int → Int) : Prop where
  ge : ∀ n : Int, 0 ≤ n → n < (rows.length : Int) → -1 ≤ val n
  lost : ∀ n : Int, 0 ≤ n → n < (rows.length : Int) → lostF ls n = true → val n = 0
  just : ∀ n : Int, 0 ≤ n → n < (rows.length : Int) → 0 ≤ val n → lostF ls n = false → ∃ m ∈ afterF rows n, 0 ≤ m ∧ m < (rows.length : Int) ∧ 0 ≤ val m ∧ val n = val m + 1
  weakj : ∀ n : Int, 0 ≤ n → n < (rows.length : Int) → 0 ≤ val n → sideF ss n ≠ 0 → ∀ m ∈ afterF rows n, 0 ≤ m ∧ m < (rows.length : Int) ∧ 0 ≤ val m ∧ val m + 1 ≤ val n
  sc : ∀ n : Int, 0 ≤ n → n < (rows.length : Int) → sideF ss n = 0 → ∀ m ∈ afterF rows n, 0 ≤ m → m < (rows.length : Int) → 0 ≤ val m → 0 ≤ val n ∧ val n ≤ val m + 1
  wcomp : ∀ n : Int, 0 ≤ n → n < (rows.length : Int) → sideF ss n ≠ 0 → afterF rows n ≠ [] → (∀ m ∈ afterF rows n, 0 ≤ m ∧ m < (rows.length : Int) ∧ 0 ≤ val m) → 0 ≤ val n

theorem table_of {ss : List Int} {rows : List (List Int)} {ls : List Bool} (hfit : Fit ss rows ls) (hlost : ∀ n, lostF ls n = true → afterF rows n = []) {a : Nat}
    (ha : a = (runS ss (iniAll rows ls rows.length).befs (iniAll rows ls rows.length).st a).q.length) (hall : ∀ a', a' < a → a' < (runS ss (iniAll rows ls rows.length).befs (iniAll rows ls rows.length).st a').q.length) :
    Table ss rows ls (V (runS ss (iniAll rows ls rows.length).befs (iniAll rows ls rows.length).st a)) := by
  obtain ⟨P, R, hP, O⟩ := run_out hlost (iniAll_ok rows ls rows.length (Nat.le_refl _)).befs (fun i n hi hn => by
    rw [iniAll_count rows ls (fun r hr m hm => ((hfit.row r hr).2 m hm).elim .inl fun h => .inr h.1) hi n rows.length (Nat.le_refl _), if_pos hn]) (ini_out (ss := ss) hfit.ls hlost) a hall
  generalize runS ss (iniAll rows ls rows.length).befs (iniAll rows ls rows.length).st a = st at *
  have hR : R = [] := by
    have := congrArg List.length O.q
    rw [List.length_append] at this
    exact List.length_eq_zero_iff.mp (by omega)
  have hq : st.q = P := by rw [O.q, hR, List.append_nil]
  have hdec : ∀ n : Int, 0 ≤ n → n < (rows.length : Int) → 0 ≤ V st n → n ∈ st.q := fun n h0 h1 h => Decidable.byContradiction fun h2 => by
    have := O.core.nd n h0 h1 h2; omega
  have hrg := O.core.run.q
  refine ⟨?_, fun n h0 h1 h => (O.core.lost n h0 h1 h).2, ?_, ?_, ?_, ?_⟩
  · intro n h0 h1
    by_cases h : n ∈ st.q
    · have := (hrg n h).2.2; unfold V; omega
    · rw [O.core.nd n h0 h1 h]; exact Int.le_refl _
  · intro n h0 h1 h hl
    obtain ⟨m, a1, b, c⟩ := O.core.just n (hdec n h0 h1 h) hl
    exact ⟨m, a1, (hrg m b).1, (hrg m b).2.1, (hrg m b).2.2, c⟩
  · intro n h0 h1 h hw m hm
    obtain ⟨b, c⟩ := O.core.weakj n (hdec n h0 h1 h) hw m hm
    exact ⟨(hrg m b).1, (hrg m b).2.1, (hrg m b).2.2, c⟩
  · intro n h0 h1 hs m hm m0 m1 hv
    obtain ⟨b, c⟩ := O.sc m (hq ▸ hdec m m0 m1 hv) n h0 h1 hm hs
    exact ⟨(hrg n b).2.2, c⟩
  · intro n h0 h1 hw hne hall2
    have : Lf st n = 0 := by
      rw [O.lefts n h0 h1]
      have : (afterF rows n).countP (fun x => decide (x ∉ P)) = 0 := List.countP_eq_zero.mpr fun m hm => by
        have := hall2 m hm
        simp [← hq, hdec m this.1 this.2.1 this.2.2]
      omega
    exact (hrg n (O.core.wcomp n h0 h1 hw hne this)).2.2
end Mine
namespace Mine
/-- what the law awaits -/
def dueOf (val : Int → Int) (d k : Nat) (p : Int) : Int := if 0 ≤ val p ∧ val p ≤ (d : Int) then (if p < 3 then 32000 - (k : Int) - val p else val p + (k : Int) - 32000) else 0
/-- the drawn places -/
structure Places (rows : List (List Int)) (ls : List Bool) : Prop where
  n : rows.length = 6
  mv : ∀ p : Int, 0 ≤ p → p < 6 → ∀ x ∈ afterF rows p, x = -1 ∨ (p < 3 ∧ 3 ≤ x ∧ x < 6) ∨ (3 ≤ p ∧ 0 ≤ x ∧ x < 3)
  lost : ∀ p : Int, 0 ≤ p → lostF ls p = true → 3 ≤ p ∧ p < 6
  empty : ∀ p : Int, lostF ls p = true → afterF rows p = []

theorem foldl_max_eq {f : Int → Int} {X : Int} : ∀ (l : List Int) (m : Int), m ≤ X → (∀ q ∈ l, f q ≤ X) → (m = X ∨ ∃ q ∈ l, f q = X) → l.foldl (fun m q => max m (f q)) m = X
  | [], m, _, _, h => by
    rcases h with h | ⟨q, hq, _⟩
    · exact h
    · cases hq
  | x :: r, m, hm, hl, h => by
    rw [List.foldl_cons]
    have hx := hl x (.head _)
    refine foldl_max_eq r _ (by omega) (fun q hq => hl q (.tail _ hq)) ?_
    rcases h with h | ⟨q, hq, e⟩
    · exact .inl (by omega)
    · rcases List.mem_cons.mp hq with rfl | hq
      · exact .inl (by omega)
      · exact .inr ⟨q, hq, e⟩

theorem NM_due {ss : List Int} {rows : List (List Int)} {ls : List Bool} {val : Int → Int} (Pl : Places rows ls) (hs : ∀ p : Int, 0 ≤ p → p < 6 → (sideF ss p = 0 ↔ p < 3)) (T : Table ss rows ls val) :
    ∀ (d : Nat) (p : Int) (k : Nat), 0 ≤ p → p < 6 → d + k ≤ 100 → NM (afterF rows) (lostF ls) d p k = dueOf val d k p
  | 0, p, k, h0, h1, hk => by
    have h6 : (rows.length : Int) = 6 := by rw [Pl.n]; rfl
    have hp : (p == -1) = false := by simpa using (show p ≠ -1 by omega)
    have hp2 : (p != -1) = true := by simpa using (show p ≠ -1 by omega)
    simp only [NM, leafV, hp, hp2, Bool.true_and, dueOf]
    rw [if_neg (by simp)]
    by_cases hl : lostF ls p = true
    · have := Pl.lost p h0 hl
      rw [if_pos hl, T.lost p h0 (by omega) hl, if_pos (by omega), if_neg (by omega)]; omega
    · rw [if_neg hl]
      by_cases hv : 0 ≤ val p ∧ val p ≤ ((0 : Nat) : Int)
      · obtain ⟨m, _, _, _, hm, e⟩ := T.just p h0 (by omega) hv.1 (by simpa using hl)
        omega
      · rw [if_neg hv]
  | d + 1, p, k, h0, h1, hk => by
    have h6 : (rows.length : Int) = 6 := by rw [Pl.n]; rfl
    have hp : p ≠ -1 := by omega
    by_cases ha : afterF rows p = []
    · rw [NM_end hp ha]
      have hp2 : (p != -1) = true := by simpa using hp
      simp only [hp2, Bool.true_and, dueOf]
      by_cases hl : lostF ls p = true
      · have := Pl.lost p h0 hl
        rw [if_pos hl, T.lost p h0 (by omega) hl, if_pos (by omega), if_neg (by omega)]; omega
      · rw [if_neg hl]
        by_cases hv : 0 ≤ val p ∧ val p ≤ ((d + 1 : Nat) : Int)
        · obtain ⟨m, hm, _⟩ := T.just p h0 (by omega) hv.1 (by simpa using hl)
          rw [ha] at hm; cases hm
        · rw [if_neg hv]
    · have hnl : lostF ls p = false := by
        cases e : lostF ls p with
        | false => rfl
        | true => exact absurd (Pl.empty p e) ha
      have IH : ∀ q, 0 ≤ q → q < 6 → NM (afterF rows) (lostF ls) d q (k + 1) = dueOf val d (k + 1) q := fun q a b => NM_due Pl hs T d q (k + 1) a b (by omega)
      have ID : NM (afterF rows) (lostF ls) d (-1) (k + 1) = 0 := NM_draw (Nat.succ_pos k)
      obtain ⟨q0, hq0⟩ : ∃ q, q ∈ afterF rows p := List.exists_mem_of_ne_nil _ ha
      rw [← best_all hp ha]
      simp only [best, List.take_length]
      by_cases hp3 : p < 3
      · have hst := (hs p h0 h1).mpr hp3
        have hmv : ∀ q ∈ afterF rows p, q = -1 ∨ (3 ≤ q ∧ q < 6) := fun q hq => by have := Pl.mv p h0 h1 q hq; omega
        by_cases hv : 0 ≤ val p ∧ val p ≤ ((d + 1 : Nat) : Int)
        · rw [dueOf, if_pos hv, if_pos hp3]
          refine foldl_max_eq _ _ (by omega) (fun q hq => ?_) (.inr ?_)
          · rcases hmv q hq with rfl | ⟨a, b⟩
            · rw [ID]; omega
            · rw [IH q (by omega) b, dueOf]
              split
              · rename_i hc
                have := T.sc p h0 (by omega) hst q hq (by omega) (by omega) hc.1
                rw [if_neg (by omega)]; omega
              · omega
          · obtain ⟨m, hm, m0, m1, m2, e⟩ := T.just p h0 (by omega) hv.1 hnl
            refine ⟨m, hm, ?_⟩
            have := hmv m hm
            rw [IH m m0 (by omega), dueOf, if_pos (by omega), if_neg (by omega)]; omega
        · rw [dueOf, if_neg hv]
          have hz : ∀ q ∈ afterF rows p, -(NM (afterF rows) (lostF ls) d q (k + 1)) = 0 := fun q hq => by
            rcases hmv q hq with rfl | ⟨a, b⟩
            · rw [ID]; rfl
            · rw [IH q (by omega) b, dueOf]
              split
              · rename_i hc
                have := T.sc p h0 (by omega) hst q hq (by omega) (by omega) hc.1
                omega
              · rfl
          exact foldl_max_eq _ _ (by omega) (fun q hq => Int.le_of_eq (hz q hq)) (.inr ⟨q0, hq0, hz q0 hq0⟩)
      · have hst : sideF ss p ≠ 0 := fun e => hp3 ((hs p h0 h1).mp e)
        have hmv : ∀ q ∈ afterF rows p, q = -1 ∨ (0 ≤ q ∧ q < 3) := fun q hq => by have := Pl.mv p h0 h1 q hq; omega
        by_cases hv : 0 ≤ val p ∧ val p ≤ ((d + 1 : Nat) : Int)
        · rw [dueOf, if_pos hv, if_neg hp3]
          have hw := T.weakj p h0 (by omega) hv.1 hst
          refine foldl_max_eq _ _ (by omega) (fun q hq => ?_) (.inr ?_)
          · have h2 := hw q hq
            have h3 := hmv q hq
            rw [IH q h2.1 (by omega), dueOf, if_pos (by omega), if_pos (by omega)]; omega
          · obtain ⟨m, hm, m0, m1, m2, e⟩ := T.just p h0 (by omega) hv.1 hnl
            refine ⟨m, hm, ?_⟩
            have := hmv m hm
            rw [IH m m0 (by omega), dueOf, if_pos (by omega), if_pos (by omega)]; omega
        · rw [dueOf, if_neg hv]
          refine foldl_max_eq _ _ (by omega) (fun q hq => ?_) (.inr ?_)
          · rcases hmv q hq with rfl | ⟨a, b⟩
            · rw [ID]; omega
            · rw [IH q a (by omega), dueOf]
              split
              · first | omega | (rw [if_pos b]; omega)
              · omega
          · by_cases hex : ∃ q ∈ afterF rows p, ¬ (0 ≤ q ∧ 0 ≤ val q ∧ val q ≤ (d : Int))
            · obtain ⟨q, hq, hn⟩ := hex
              refine ⟨q, hq, ?_⟩
              rcases hmv q hq with rfl | ⟨a, b⟩
              · rw [ID]; rfl
              · rw [IH q a (by omega), dueOf, if_neg (fun c => hn ⟨a, c⟩)]; rfl
            · exfalso
              have hall : ∀ q ∈ afterF rows p, 0 ≤ q ∧ 0 ≤ val q ∧ val q ≤ (d : Int) := fun q hq => Decidable.byContradiction fun h => hex ⟨q, hq, h⟩
              have hv0 := T.wcomp p h0 (by omega) hst ha fun q hq => ⟨(hall q hq).1, by have := hmv q hq; omega, (hall q hq).2.1⟩
              obtain ⟨m, hm, m0, m1, m2, e⟩ := T.just p h0 (by omega) hv0 hnl
              have := hall m hm
              omega
end Mine
namespace Mine
theorem mated_in_spec {prog : Program} (w : World) (k : Int) (t : Tok) :
    Spc prog w (Mine.hd.heap_1 w.params) 28 [.int k t] [] 1 3 (fun _ => True) [] (fun _ r nw => nw = [] ∧ ∃ t', r = .int (k - 32000) t') := by
  refine' Spc.intro (dp := 0) (un := 0) (binds := [("ply", .int k t)]) ?k6 ?k7 (fun s => BindsTo.of_eq ?kb) (locs ?kl) ?_ ?c1 ?c2 ?c3 ?c4
  walk_at "my cases"
  intro A g L h₁ s tk p loose mg mb QF hQF hh hd hu F N hlt X T hR
  walk_at "my steps"
  exact ⟨_, sub_self, rfl, _, rfl⟩
theorem mate_in_spec {prog : Program} (w : World) (k : Int) (t : Tok) :
    Spc prog w (Mine.hd.heap_1 w.params) 35 [.int k t] [] 1 3 (fun _ => True) [] (fun _ r nw => nw = [] ∧ ∃ t', r = .int (32000 - k) t') := by
  refine' Spc.intro (dp := 0) (un := 0) (binds := [("ply", .int k t)]) ?k6 ?k7 (fun s => BindsTo.of_eq ?kb) (locs ?kl) ?_ ?c1 ?c2 ?c3 ?c4
  walk_at "my cases"
  intro A g L h₁ s tk p loose mg mb QF hQF hh hd hu F N hlt X T hR
  walk_at "my steps"
  exact ⟨_, sub_self, rfl, _, rfl⟩

abbrev dieOf (sc : Addr) (k : Int) (t : Tok) (n : Nat) : Obj := listOf #[.ref sc, .int k t] n
def DieR (sc : Addr) (g : Heap) : Prop := ∃ (vs : List Value) (ns : List Int), g.IsList sc vs.toArray ∧ IntsAre vs ns ∧ ns.length ≤ 24

theorem roll_spec {prog : Program} (w : World) (die sc : Addr) (k many : Int) (t tm : Tok) (n : Nat) (hk : 0 ≤ k) (hm : 0 < many) :
    Spc prog w (Mine.hd.heap_1 w.params) 211 [.ref die, .int many tm] [] 1 3 (DieR sc) [(die, dieOf sc k t n)]
     (fun _ r nw => (∃ t', nw = [(die, dieOf sc (k + 1) t' n)]) ∧ ∃ v t', r = .int v t' ∧ 0 ≤ v ∧ v < many) := by
  refine' Spc.intro (dp := 0) (un := 0) (binds := [("die", .ref die), ("many", .int many tm)]) ?k6 ?k7 (fun s => BindsTo.of_eq ?kb) (locs ?kl) ?_ ?c1 ?c2 ?c3 ?c4
  walk_at "my cases"
  intro A g L h₁ s tk p loose mg mb QF hQF hh hd hu F N hlt X T hR
  obtain ⟨vs, ns, hS, hI, hz⟩ := hR
  walk_at "my steps"
  all_goals (refine ⟨_, sub_self, ⟨_, rfl⟩, _, _, rfl, ?_⟩)
  all_goals first | exact ⟨Int.fmod_nonneg_of_pos _ hm, Int.fmod_lt_of_pos _ hm⟩ | exact ⟨Int.le_refl _, hm⟩
end Mine
namespace Mine
theorem DieR.mono {sc : Addr} {g g' : Heap} (h : DieR sc g) (k : g.StaysIn g') : DieR sc g' :=
  let ⟨vs, ns, ⟨o, ho, r⟩, b, c⟩ := h; ⟨vs, ns, ⟨o, k _ _ ho, r⟩, b, c⟩

/-- a place that a move may lead to -/
def okMove (place x : Int) : Prop := x = -1 ∨ (place < 3 ∧ 3 ≤ x ∧ x < 6) ∨ (3 ≤ place ∧ 0 ≤ x ∧ x < 3)

def MovesJ (die sc l : Addr) (place : Int) (tp : Tok) (n i : Nat) (ps : List (Str × Value)) (led : List (Addr × Obj)) : Prop :=
  ∃ k' t' vs xs n', 0 ≤ k' ∧ ps = [nv "die" (.ref die), nv "place" (.int place tp), nv "found" (.ref l)] ∧ led = [(die, dieOf sc k' t' n), (l, listOf (List.toArray vs) n')] ∧ IntsAre vs xs ∧ xs.length = i ∧ ∀ x ∈ xs, okMove place x

theorem moves_spec {prog : Program} (w : World) (die sc : Addr) (k place : Int) (t tp : Tok) (n : Nat) (hk : 0 ≤ k) :
    Spc prog w (Mine.hd.heap_1 w.params) 218 [.ref die, .int place tp] [] 2 6 (DieR sc) [(die, dieOf sc k t n)]
     (fun g r nw => ∃ k' t' l vs xs n', nw = [(die, dieOf sc k' t' n), (l, listOf (List.toArray vs) n')] ∧ r = .ref l ∧ 0 ≤ k' ∧ die ≠ l ∧ IntsAre vs xs ∧ xs.length ≤ 2 ∧ ∀ x ∈ xs, okMove place x) := by
  refine' Spc.intro (dp := 1) (un := 3) (binds := [("die", .ref die), ("place", .int place tp)]) ?k6 ?k7 (fun s => BindsTo.of_eq ?kb) (locs ?kl) ?_ ?c1 ?c2 ?c3 ?c4
  walk_at "my cases"
  intro A g L h₁ s tk p loose mg mb QF hQF hh hd hu F N hlt X T hR
  walk_at "my steps"
  refine ⟨for_any (by assumption) rfl rfl ?_⟩
  walk_at "my steps"
  rename_i l _ l1 _ F2 N2
  refine ⟨Spc.call (roll_spec w die sc k 3 t _ n hk (by decide)) hh (by omega) (by omega) F2 N2 X T [(l, listOf #[] 0)] (by simp) (by simp) (by walk_at "my off") (fun g' st _ => hR.mono st) ?_⟩
  rintro g' r nw h' tk' st hk' F3 N3 hfr hne ⟨⟨t1, rfl⟩, v, t2, rfl, hv0, hv1⟩
  simp only [List.cons_append, List.nil_append] at N3
  walk_at "my steps"
  rename_i h4 tk4 t4 u4 v4 rg F4 N4 kp4
  refine ⟨for_range (n := v.toNat) hh F4 N4 rg (small_one (by decide) (by decide) (by omega) (by omega)) (by rw [rangeSize_nat]; simp)
    (MovesJ die sc l place tp n)
    [nv "die" (.ref die), nv "place" (.int place tp), nv "found" (.ref l)] [(die, dieOf sc (k + 1) t1 n), (l, listOf #[] 0)] ?hps (by simp) ⟨k + 1, t1, [], [], 0, by omega, rfl, rfl, .nil, rfl, by simp⟩ ?turn ?done⟩
  case hps =>
    walk_at "my ps"
  case turn =>
    rintro i t5 ps led u h5 tk5 own TQ hTQ hi ⟨k', t', vs, xs, n', hk0, rfl, rfl, hI, hlen, hok⟩ F5 N5 hoff -
    simp only [List.cons_append, List.nil_append] at N5
    have o1 : ∀ p ∈ own, p.1 ≠ die := hoff _ (.head _)
    have o2 : ∀ p ∈ own, p.1 ≠ l := hoff _ (.tail _ (.head _))
    walk_at "my steps"
    refine ⟨Spc.call (roll_spec w die sc k' 4 t' _ n hk0 (by decide)) hh (by omega) (by omega) F5 N5 X T ((l, listOf (List.toArray vs) n') :: own) (by walk_at "my sub") (by walk_at "my sub") (fun q hq q' hq' => ?off) (fun g' st _ => hR.mono st) ?_⟩
    case off =>
      rw [List.mem_singleton.mp hq']
      rcases List.mem_cons.mp hq with rfl | hq
      · walk_at "my ne"
      · exact o1 q hq
    rintro g2 r nw h6 tk6 st2 hk2 F6 N6 hfr2 hne2 ⟨⟨t6, rfl⟩, v2, t7, rfl, hv20, hv21⟩
    simp only [List.cons_append, List.nil_append] at N6
    have fin : ∀ (h7 : Heap) (tk7 : Nat) (m7 : Str → Option Value) (x : Int) (tx : Tok), Fr g L h7 m7 → News g L h7 ((die, dieOf sc (k' + 1) t6 n) :: (l, listOf (vs ++ [Value.int x tx]).toArray (n' + 1)) :: own) →
        (∀ p ∈ [nv "die" (.ref die), nv "place" (.int place tp), nv "found" (.ref l)], m7 p.1 = some p.2) → okMove place x → Hold (TEnd g L (.type "range_iterator") own (MovesJ die sc l place tp n (i + 1)) { s with heap := h5, toks := tk5 } { s with heap := h7, toks := tk7 }) :=
      fun h7 tk7 m7 x tx F7 N7 hp hx => TEnd.of F7 N7 ⟨k' + 1, t6, vs ++ [_], xs ++ [x], n' + 1, by omega, rfl, rfl, IntsAre.append hI (.cons _ tx .nil), by simp [hlen], fun y hy => by
        rcases List.mem_append.mp hy with hy | hy
        · exact hok y hy
        · rw [List.mem_singleton.mp hy]; exact hx⟩ hp (by walk_at "my sub") (by walk_at "my sub") (by walk_at "my cls")
    walk_at "my steps"
    all_goals (rename News _ _ _ _ => N7)
    all_goals (try simp only [List.push_toArray] at N7)
    all_goals (exact fin _ _ _ _ _ (by assumption) N7 (by walk_at "my ps") (by unfold okMove; omega))
  case done =>
    rintro ps led u h5 tk5 ⟨k', t', vs, xs, n', hk0, rfl, rfl, hI, hlen, hok⟩ F5 N5
    walk_at "my steps"
    exact ⟨_, sub_self, k', t', l, vs, xs, n', rfl, rfl, hk0, by walk_at "my ne", hI, by omega, hok⟩
end Mine
namespace Mine
abbrev gameD (w : World) (ch va ck dr mk gn pa : Addr) (t1 t2 t3 t4 t5 t6 t7 : Tok) : Obj :=
  dictOf [⟨PyData.keyHash w.params "children", .str "children" t1, .ref ch⟩, ⟨PyData.keyHash w.params "values", .str "values" t2, .ref va⟩, ⟨PyData.keyHash w.params "checks", .str "checks" t3, .ref ck⟩,
    ⟨PyData.keyHash w.params "draws", .str "draws" t4, .ref dr⟩, ⟨PyData.keyHash w.params "noisy_rows", .str "noisy_rows" t5, .ref mk⟩, ⟨PyData.keyHash w.params "gain_rows", .str "gain_rows" t6, .ref gn⟩, ⟨PyData.keyHash w.params "path", .str "path" t7, .ref pa⟩] 7

theorem init_spec {prog : Program} (w : World) (x dx ch va ck dr mk gn : Addr) (hne : dx < x) :
    Spc prog w (Mine.hd.heap_1 w.params) 121 [.ref x, .ref ch, .ref va, .ref ck, .ref dr, .ref mk, .ref gn] [] 1 3 (fun _ => True) [(x, instObj 199 dx), (dx, dictOf [] 0)]
     (fun g r nw => r = .none ∧ ∃ pa t t1 t2 t3 t4 t5 t6 t7, nw = [(pa, listOf (List.toArray ([] ++ [.int 0 t])) 0), (x, instObj 199 dx), (dx, gameD w ch va ck dr mk gn pa t1 t2 t3 t4 t5 t6 t7)] ∧ pa ≠ x ∧ pa ≠ dx) := by
  refine' Spc.intro (dp := 0) (un := 0) (binds := [nv "self" (.ref x), nv "children" (.ref ch), nv "values" (.ref va), nv "checks" (.ref ck), nv "draws" (.ref dr), nv "noisy" (.ref mk), nv "gains" (.ref gn)]) ?k6 ?k7 (fun s => BindsTo.of_eq ?kb) (locs ?kl) ?_ ?c1 ?c2 ?c3 ?c4
  walk_at "my cases"
  intro A g L h₁ s tk p loose mg mb QF hQF hh hd hu F N hlt X T hR
  replace hne := ltN hne
  walk_at "my steps"
  exact ⟨_, sub_self, rfl, _, _, _, _, _, _, _, _, _, rfl, by walk_at "my ne", by walk_at "my ne"⟩

/-- a tree of games as the objects bear it -/
structure GameR (w : World) (game pa : Addr) (kids : List (List Int)) (cks drs : List Bool) (g : Heap) : Prop where
  ex : ∃ dx ch va ck dr mk gn t1 t2 t3 t4 t5 t6 t7 rs n1 vs n2 n3 n4, g.get? game = some (instObj 199 dx) ∧ g.get? dx = some (gameD w ch va ck dr mk gn pa t1 t2 t3 t4 t5 t6 t7) ∧
    g.get? ch = some (listOf (List.toArray rs) n1) ∧ Rows g rs kids ∧ g.get? va = some (listOf (List.toArray vs) n2) ∧ IntsAre vs (List.replicate kids.length 0) ∧
    g.get? ck = some (listOf (List.toArray (cks.map Value.bool)) n3) ∧ g.get? dr = some (listOf (List.toArray (drs.map Value.bool)) n4)
theorem GameR.mono {w : World} {game pa : Addr} {kids : List (List Int)} {cks drs : List Bool} {g g' : Heap} (h : GameR w game pa kids cks drs g) (k : g.StaysIn g') : GameR w game pa kids cks drs g' :=
  let ⟨dx, ch, va, ck, dr, mkr, gn, t1, t2, t3, t4, t5, t6, t7, rs, n1, vs, n2, n3, n4, a, b, c, d, e, f, x, y⟩ := h.ex
  .mk ⟨dx, ch, va, ck, dr, mkr, gn, t1, t2, t3, t4, t5, t6, t7, rs, n1, vs, n2, n3, n4, k _ _ a, k _ _ b, k _ _ c, d.mono k, k _ _ e, f, k _ _ x, k _ _ y⟩

abbrev pathOf (us : List Value) (i : Nat) (t : Tok) (n : Nat) : Obj := listOf (List.toArray (us ++ [.int (i : Int) t])) n

set_option maxHeartbeats 400000 in
theorem in_check_spec {prog : Program} (w : World) (game pa : Addr) (kids : List (List Int)) (cks drs : List Bool) (us : List Value) (i : Nat) (t : Tok) (n : Nat) (c : Bool) (hc : cks[i]? = some c) (hi : i < 100) :
    Spc prog w (Mine.hd.heap_1 w.params) 168 [.ref game] [] 1 3 (GameR w game pa kids cks drs) [(pa, pathOf us i t n)]
     (fun _ r nw => nw = [(pa, pathOf us i t n)] ∧ r = .bool c) := by
  refine' Spc.intro (dp := 0) (un := 0) (binds := [nv "self" (.ref game)]) ?k6 ?k7 (fun s => BindsTo.of_eq ?kb) (locs ?kl) ?_ ?c1 ?c2 ?c3 ?c4
  walk_at "my cases"
  intro A g L h₁ s tk p loose mg mb QF hQF hh hd hu F N hlt X T hR
  obtain ⟨dx, ch, va, ck, dr, mk, gn, t1, t2, t3, t4, t5, t6, t7, rs, n1, vs, n2, n3, n4, g1, g2, g3, g4, g5, g6, g7, g8⟩ := hR.ex
  have hc' : (cks.map Value.bool)[i]? = some (.bool c) := by simp [hc]
  walk_at "my steps"
  exact ⟨_, sub_self, rfl, rfl⟩
set_option maxHeartbeats 400000 in
theorem is_draw_spec {prog : Program} (w : World) (game pa : Addr) (kids : List (List Int)) (cks drs : List Bool) (us : List Value) (i : Nat) (t : Tok) (n : Nat) (c : Bool) (hc : drs[i]? = some c) (hi : i < 100) :
    Spc prog w (Mine.hd.heap_1 w.params) 175 [.ref game] [] 1 3 (GameR w game pa kids cks drs) [(pa, pathOf us i t n)]
     (fun _ r nw => nw = [(pa, pathOf us i t n)] ∧ r = .bool c) := by
  refine' Spc.intro (dp := 0) (un := 0) (binds := [nv "self" (.ref game)]) ?k6 ?k7 (fun s => BindsTo.of_eq ?kb) (locs ?kl) ?_ ?c1 ?c2 ?c3 ?c4
  walk_at "my cases"
  intro A g L h₁ s tk p loose mg mb QF hQF hh hd hu F N hlt X T hR
  obtain ⟨dx, ch, va, ck, dr, mk, gn, t1, t2, t3, t4, t5, t6, t7, rs, n1, vs, n2, n3, n4, g1, g2, g3, g4, g5, g6, g7, g8⟩ := hR.ex
  have hc' : (drs.map Value.bool)[i]? = some (.bool c) := by simp [hc]
  walk_at "my steps"
  exact ⟨_, sub_self, rfl, rfl⟩
set_option maxHeartbeats 400000 in
theorem value_spec {prog : Program} (w : World) (game pa : Addr) (kids : List (List Int)) (cks drs : List Bool) (us : List Value) (i : Nat) (t : Tok) (n : Nat) (hl : i < kids.length) (hi : i < 100) :
    Spc prog w (Mine.hd.heap_1 w.params) 154 [.ref game] [] 1 3 (GameR w game pa kids cks drs) [(pa, pathOf us i t n)]
     (fun _ r nw => nw = [(pa, pathOf us i t n)] ∧ ∃ t9, r = .int 0 t9) := by
  refine' Spc.intro (dp := 0) (un := 0) (binds := [nv "self" (.ref game)]) ?k6 ?k7 (fun s => BindsTo.of_eq ?kb) (locs ?kl) ?_ ?c1 ?c2 ?c3 ?c4
  walk_at "my cases"
  intro A g L h₁ s tk p loose mg mb QF hQF hh hd hu F N hlt X T hR
  obtain ⟨dx, ch, va, ck, dr, mk, gn, t1, t2, t3, t4, t5, t6, t7, rs, n1, vs, n2, n3, n4, g1, g2, g3, g4, g5, g6, g7, g8⟩ := hR.ex
  obtain ⟨t9, hv⟩ := g6.get i 0 (by simp [hl])
  walk_at "my steps"
  exact ⟨_, sub_self, rfl, _, rfl⟩
set_option maxHeartbeats 400000 in
theorem kidmoves_spec {prog : Program} (w : World) (game pa : Addr) (kids : List (List Int)) (cks drs : List Bool) (us : List Value) (i : Nat) (t : Tok) (n : Nat) (row : List Int) (hrow : kids[i]? = some row) (hz : row.length ≤ 100) (hi : i < 100) :
    Spc prog w (Mine.hd.heap_1 w.params) 128 [.ref game] [] 1 3 (GameR w game pa kids cks drs) [(pa, pathOf us i t n)]
     (fun _ r nw => ∃ l ys n', nw = [(l, listOf (List.toArray ys) n'), (pa, pathOf us i t n)] ∧ r = .ref l ∧ l ≠ pa ∧ IntsAre ys (rangeInts 1 1 row.length)) := by
  refine' Spc.intro (dp := 0) (un := 0) (binds := [nv "self" (.ref game)]) ?k6 ?k7 (fun s => BindsTo.of_eq ?kb) (locs ?kl) ?_ ?c1 ?c2 ?c3 ?c4
  walk_at "my cases"
  intro A g L h₁ s tk p loose mg mb QF hQF hh hd hu F N hlt X T hR
  obtain ⟨dx, ch, va, ck, dr, mk, gn, t1, t2, t3, t4, t5, t6, t7, rs, n1, vs, n2, n3, n4, g1, g2, g3, g4, g5, g6, g7, g8⟩ := hR.ex
  obtain ⟨ra, rv, rn, hr1, hr2, hr3⟩ := g4.at i row hrow
  have hr4 := hr3.length
  walk_at "my steps"
  rename IntsAre _ (rangeInts _ _ _) => hI
  rw [show ((rv.length : Int) + 1 - 1).toNat = row.length by omega] at hI
  exact ⟨_, sub_self, _, _, _, rfl, rfl, by walk_at "my ne", hI⟩
set_option maxHeartbeats 400000 in
theorem make_spec {prog : Program} (w : World) (game pa : Addr) (kids : List (List Int)) (cks drs : List Bool) (us : List Value) (i : Nat) (t : Tok) (n : Nat) (row : List Int) (hrow : kids[i]? = some row) (hz : row.length ≤ 100) (hus : us.length < 100) (j : Nat) (mj : Int) (tj : Tok) (c : Nat) (hj : row[j]? = some (c : Int)) (hmj : mj = (j : Int) + 1) (hi : i < 100) :
    Spc prog w (Mine.hd.heap_1 w.params) 140 [.ref game, .int mj tj] [] 1 3 (GameR w game pa kids cks drs) [(pa, pathOf us i t n)]
     (fun _ r nw => ∃ tc, nw = [(pa, pathOf (us ++ [.int (i : Int) t]) c tc (n + 1))] ∧ r = .none) := by
  subst hmj
  refine' Spc.intro (dp := 0) (un := 0) (binds := [nv "self" (.ref game), nv "move" (.int ((j : Int) + 1) tj)]) ?k6 ?k7 (fun s => BindsTo.of_eq ?kb) (locs ?kl) ?_ ?c1 ?c2 ?c3 ?c4
  walk_at "my cases"
  intro A g L h₁ s tk p loose mg mb QF hQF hh hd hu F N hlt X T hR
  obtain ⟨dx, ch, va, ck, dr, mk, gn, t1, t2, t3, t4, t5, t6, t7, rs, n1, vs, n2, n3, n4, g1, g2, g3, g4, g5, g6, g7, g8⟩ := hR.ex
  obtain ⟨ra, rv, rn, hr1, hr2, hr3⟩ := g4.at i row hrow
  have hr4 := hr3.length
  have hj' : j < row.length := (List.getElem?_eq_some_iff.mp hj).1
  obtain ⟨tx, hvx⟩ := hr3.get j _ hj
  walk_at "my steps"
  exact ⟨_, sub_self, _, rfl, rfl⟩
set_option maxHeartbeats 400000 in
theorem undo_spec {prog : Program} (w : World) (game pa : Addr) (kids : List (List Int)) (cks drs : List Bool) (us : List Value) (i : Nat) (t : Tok) (n : Nat) (hus : us.length < 100) (i0 : Nat) (t0 : Tok) (hi : i < 100) :
    Spc prog w (Mine.hd.heap_1 w.params) 147 [.ref game] [] 1 3 (GameR w game pa kids cks drs) [(pa, pathOf (us ++ [.int (i0 : Int) t0]) i t n)]
     (fun _ r nw => nw = [(pa, pathOf us i0 t0 (n + 1))] ∧ r = .none) := by
  refine' Spc.intro (dp := 0) (un := 0) (binds := [nv "self" (.ref game)]) ?k6 ?k7 (fun s => BindsTo.of_eq ?kb) (locs ?kl) ?_ ?c1 ?c2 ?c3 ?c4
  walk_at "my cases"
  intro A g L h₁ s tk p loose mg mb QF hQF hh hd hu F N hlt X T hR
  obtain ⟨dx, ch, va, ck, dr, mk, gn, t1, t2, t3, t4, t5, t6, t7, rs, n1, vs, n2, n3, n4, g1, g2, g3, g4, g5, g6, g7, g8⟩ := hR.ex
  have hlen : 0 < (us ++ [Value.int (i0 : Int) t0]).length := by simp
  walk_at "my steps"
  · exfalso
    omega
  · exact ⟨_, sub_self, rfl, rfl⟩
end Mine
namespace Mine
section
variable {prog : Program} {w : World} {f : Addr} {vs : List Value} {dp un : Nat} {Post : Heap → Value → List (Addr × Obj) → Prop} {game pa : Addr} {kids : List (List Int)} {cks drs : List Bool} {o : Obj}
  {A : Around} {h₀ : Heap} {L : Addr} {m : Str → Option Value} {news rest : List (Addr × Obj)} {s : Shared} {p : Program} {loose : List Str} {mg mb : Str → Option Value} {Q E : Value → Shared → Prop}
theorem callG (hR : GameR w game pa kids cks drs h₀) (C : Spc prog w (Mine.hd.heap_1 w.params) f vs [] dp un (GameR w game pa kids cks drs) [(pa, o)] Post) (hh : A.handled = none) (hd : A.depth + dp < recursionLimit) (hu : A.units + un < cLine)
    (F : Fr h₀ L s.heap m) (N : News h₀ L s.heap news) (X : (Mine.hd.heap_1 w.params).In h₀) (T : TopRead p loose mg mb h₀) (P : Pick (pa, o) news rest) (hoff : ∀ p ∈ rest, p.1 ≠ pa)
    (ret : ∀ g r nw h' tk', Fr h₀ L h' m → News h₀ L h' (nw ++ rest) → (∀ a ∈ nw, ∀ b ∈ rest, a.1 ≠ b.1) → Post g r nw → Q r { s with heap := h', toks := tk' }) :
    wpAny (model prog w) A (PySem.call (.ref f) vs) Q E s :=
  Spc.call1 C hh hd hu F N X T P hoff (fun _ st _ => hR.mono st) fun g r nw h' tk' _ F' N' hne hP => ret g r nw h' tk' F' N' hne hP
end
end Mine
local macro_rules | `(tactic| walk_at "my game") => `(tactic| (k_here; first
  | (refine Mine.callG (by assumption) (Mine.is_draw_spec _ _ _ _ _ _ _ _ _ _ _ (by assumption) (by assumption)) (by assumption) (by omega) (by omega) (by assumption) (by assumption) (by assumption) (by assumption) (by walk_at "my pick") (by walk_at "my all") ?_; rintro g' r' nw' h' tk' F' N' hne' ⟨e1', e2'⟩; subst e1'; subst e2')
  | (refine Mine.callG (by assumption) (Mine.in_check_spec _ _ _ _ _ _ _ _ _ _ _ (by assumption) (by assumption)) (by assumption) (by omega) (by omega) (by assumption) (by assumption) (by assumption) (by assumption) (by walk_at "my pick") (by walk_at "my all") ?_; rintro g' r' nw' h' tk' F' N' hne' ⟨e1', e2'⟩; subst e1'; subst e2')
  | (refine Mine.callG (by assumption) (Mine.value_spec _ _ _ _ _ _ _ _ _ _ (by assumption) (by assumption)) (by assumption) (by omega) (by omega) (by assumption) (by assumption) (by assumption) (by assumption) (by walk_at "my pick") (by walk_at "my all") ?_; rintro g' r' nw' h' tk' F' N' hne' ⟨e1', t', e2'⟩; subst e1'; subst e2')
  | (refine Mine.callG (by assumption) (Mine.kidmoves_spec _ _ _ _ _ _ _ _ _ _ _ (by assumption) (by assumption) (by assumption)) (by assumption) (by omega) (by omega) (by assumption) (by assumption) (by assumption) (by assumption) (by walk_at "my pick") (by walk_at "my all") ?_; rintro g' r' nw' h' tk' F' N' hne' ⟨l', ys', n', e1', e2', hlp', hI'⟩; subst e1'; subst e2'; have hIl' := hI'.length; rw [rangeInts_length] at hIl')
  | (refine Mine.Spc.call (Mine.mated_in_spec _ _ _) (by assumption) (by omega) (by omega) (by assumption) (by assumption) (by assumption) (by assumption) _ (List.forall_mem_nil _) Mine.sub_self (fun _ _ _ h => nomatch h) (fun _ _ _ => trivial) ?_; rintro g' r' nw' h' tk' - - F' N' - - ⟨e1', t', e2'⟩; subst e1'; subst e2')))
local macro_rules | `(tactic| walk_at "call ref") => `(tactic| (walk_at "my game"; (rename News _ _ _ _ => N9'); (try simp only [List.cons_append, List.nil_append, List.append_nil] at N9')))
namespace Mine
set_option maxHeartbeats 400000 in
theorem quiesce_spec {prog : Program} (w : World) (game pa : Addr) (kids : List (List Int)) (cks drs : List Bool) (us : List Value) (i : Nat) (t : Tok) (n : Nat) (c d : Bool) (hc : cks[i]? = some c) (hdr : drs[i]? = some d) (row : List Int) (hrow : kids[i]? = some row) (hrz : row = []) (hi : i < 100)
    (a b : Int) (k : Nat) (ta tb tp tq : Tok) :
    Spc prog w (Mine.hd.heap_1 w.params) 42 [.ref game, .int a ta, .int b tb, .int (k : Int) tp, .int 0 tq] [] 3 9 (GameR w game pa kids cks drs) [(pa, pathOf us i t n)]
     (fun _ r nw => nw = [(pa, pathOf us i t n)] ∧ ∃ t', r = .int (leafV d c k) t') := by
  refine' Spc.intro (dp := 2) (un := 6) (binds := [nv "game" (.ref game), nv "alpha" (.int a ta), nv "beta" (.int b tb), nv "ply" (.int (k : Int) tp), nv "qdepth" (.int 0 tq)]) ?k6 ?k7 (fun s => BindsTo.of_eq ?kb) (locs ?kl) ?_ ?c1 ?c2 ?c3 ?c4
  walk_at "my cases"
  intro A g L h₁ s tk p loose mg mb QF hQF hh hd hu F N hlt X T hR
  obtain ⟨dx, ch, va, ck, dr, mk, gn, t1, t2, t3, t4, t5, t6, t7, rs, n1, vs, n2, n3, n4, g1, g2, -⟩ := hR.ex
  have hil : i < kids.length := (List.getElem?_eq_some_iff.mp hrow).1
  have hrl : row.length ≤ 100 := by subst hrz; simp
  have hrl0 : row.length = 0 := by subst hrz; rfl
  walk_at "my steps"
  all_goals first
    | exact ⟨_, (by walk_at "my sub"), rfl, _, congrArg (fun z => Value.int z _) (by unfold leafV; (repeat' split) <;> first | rfl | (exfalso; simp_all; done) | (exfalso; simp_all; omega))⟩
    | (exfalso; rename List.isEmpty _ = false => he; rename IntsAre _ (rangeInts _ _ _) => hI; have := hI.length; rw [rangeInts_length, hrl0] at this; rw [List.length_eq_zero_iff.mp this] at he; cases he)
end Mine
namespace Mine
set_option maxHeartbeats 400000 in
theorem plain_quiesce_spec {prog : Program} (w : World) (game pa : Addr) (kids : List (List Int)) (cks drs : List Bool) (us : List Value) (i : Nat) (t : Tok) (n : Nat) (c d : Bool) (hc : cks[i]? = some c) (hdr : drs[i]? = some d) (row : List Int) (hrow : kids[i]? = some row) (hrz : row = []) (hi : i < 100)
    (k : Nat) (tp tq : Tok) :
    Spc prog w (Mine.hd.heap_1 w.params) 56 [.ref game, .int (k : Int) tp, .int 0 tq] [] 3 9 (GameR w game pa kids cks drs) [(pa, pathOf us i t n)]
     (fun _ r nw => nw = [(pa, pathOf us i t n)] ∧ ∃ t', r = .int (leafV d c k) t') := by
  refine' Spc.intro (dp := 2) (un := 6) (binds := [nv "game" (.ref game), nv "ply" (.int (k : Int) tp), nv "qdepth" (.int 0 tq)]) ?k6 ?k7 (fun s => BindsTo.of_eq ?kb) (locs ?kl) ?_ ?c1 ?c2 ?c3 ?c4
  walk_at "my cases"
  intro A g L h₁ s tk p loose mg mb QF hQF hh hd hu F N hlt X T hR
  obtain ⟨dx, ch, va, ck, dr, mk, gn, t1, t2, t3, t4, t5, t6, t7, rs, n1, vs, n2, n3, n4, g1, g2, -⟩ := hR.ex
  have hil : i < kids.length := (List.getElem?_eq_some_iff.mp hrow).1
  have hrl : row.length ≤ 100 := by subst hrz; simp
  have hrl0 : row.length = 0 := by subst hrz; rfl
  walk_at "my steps"
  all_goals first
    | exact ⟨_, (by walk_at "my sub"), rfl, _, congrArg (fun z => Value.int z _) (by unfold leafV; (repeat' split) <;> first | rfl | (exfalso; simp_all; done) | (exfalso; simp_all; omega))⟩
    | (exfalso; rename List.isEmpty _ = false => he; rename IntsAre _ (rangeInts _ _ _) => hI; have := hI.length; rw [rangeInts_length, hrl0] at this; rw [List.length_eq_zero_iff.mp this] at he; cases he)

set_option maxHeartbeats 400000 in
theorem end_value_spec {prog : Program} (w : World) (game pa : Addr) (kids : List (List Int)) (cks drs : List Bool) (us : List Value) (i : Nat) (t : Tok) (n : Nat) (c : Bool) (hc : cks[i]? = some c) (hi : i < 100) (k : Nat) (tp : Tok) :
    Spc prog w (Mine.hd.heap_1 w.params) 63 [.ref game, .int (k : Int) tp] [] 2 6 (GameR w game pa kids cks drs) [(pa, pathOf us i t n)]
     (fun _ r nw => nw = [(pa, pathOf us i t n)] ∧ ∃ t', r = .int (if c = true then (k : Int) - 32000 else 0) t') := by
  refine' Spc.intro (dp := 1) (un := 3) (binds := [nv "game" (.ref game), nv "ply" (.int (k : Int) tp)]) ?k6 ?k7 (fun s => BindsTo.of_eq ?kb) (locs ?kl) ?_ ?c1 ?c2 ?c3 ?c4
  walk_at "my cases"
  intro A g L h₁ s tk p loose mg mb QF hQF hh hd hu F N hlt X T hR
  obtain ⟨dx, ch, va, ck, dr, mk, gn, t1, t2, t3, t4, t5, t6, t7, rs, n1, vs, n2, n3, n4, g1, g2, -⟩ := hR.ex
  walk_at "my steps"
  all_goals (exact ⟨_, (by walk_at "my sub"), rfl, _, congrArg (fun z => Value.int z _) (by (repeat' split) <;> first | rfl | (exfalso; simp_all; done))⟩)
end Mine
local macro_rules | `(tactic| walk_at "my game") => `(tactic| (k_here; first
  | (refine Mine.callG (by assumption) (Mine.make_spec _ _ _ _ _ _ _ _ _ _ _ (by assumption) (by assumption) (by assumption) _ _ _ _ (by assumption) (by omega) (by assumption)) (by assumption) (by omega) (by omega) (by assumption) (by assumption) (by assumption) (by assumption) (by walk_at "my pick") (by walk_at "my all") ?_; rintro g' r' nw' h' tk' F' N' hne' ⟨tc', e1', e2'⟩; subst e1'; subst e2')
  | (refine Mine.callG (by assumption) (Mine.undo_spec _ _ _ _ _ _ _ _ _ _ (by assumption) _ _ (by assumption)) (by assumption) (by omega) (by omega) (by assumption) (by assumption) (by assumption) (by assumption) (by walk_at "my pick") (by walk_at "my all") ?_; rintro g' r' nw' h' tk' F' N' hne' ⟨e1', e2'⟩; subst e1'; subst e2')
  | (refine Mine.callG (by assumption) (Mine.quiesce_spec _ _ _ _ _ _ _ _ _ _ _ _ (by assumption) (by assumption) _ (by assumption) (by assumption) (by assumption) _ _ _ _ _ _ _) (by assumption) (by omega) (by omega) (by assumption) (by assumption) (by assumption) (by assumption) (by walk_at "my pick") (by walk_at "my all") ?_; rintro g' r' nw' h' tk' F' N' hne' ⟨e1', t', e2'⟩; subst e1'; subst e2')
  | (refine Mine.callG (by assumption) (Mine.plain_quiesce_spec _ _ _ _ _ _ _ _ _ _ _ _ (by assumption) (by assumption) _ (by assumption) (by assumption) (by assumption) _ _ _) (by assumption) (by omega) (by omega) (by assumption) (by assumption) (by assumption) (by assumption) (by walk_at "my pick") (by walk_at "my all") ?_; rintro g' r' nw' h' tk' F' N' hne' ⟨e1', t', e2'⟩; subst e1'; subst e2')
  | (refine Mine.callG (by assumption) (Mine.end_value_spec _ _ _ _ _ _ _ _ _ _ _ (by assumption) (by assumption) _ _) (by assumption) (by omega) (by omega) (by assumption) (by assumption) (by assumption) (by assumption) (by walk_at "my pick") (by walk_at "my all") ?_; rintro g' r' nw' h' tk' F' N' hne' ⟨e1', t', e2'⟩; subst e1'; subst e2')))
namespace Mine
def ABP (pa : Addr) (us : List Value) (i : Nat) (t : Tok) (a b v : Int) (r : Value) (nw : List (Addr × Obj)) : Prop := (∃ n', nw = [(pa, pathOf us i t n')]) ∧ ∃ x t', r = .int x t' ∧ Bnd a b x v

set_option pp.deepTerms false in
set_option pp.maxSteps 3000 in
set_option maxHeartbeats 400000 in
theorem ab_draw {prog : Program} (w : World) (game pa : Addr) (kids : List (List Int)) (cks drs : List Bool) (us : List Value) (i : Nat) (t : Tok) (n : Nat) (hdr : drs[i]? = some true) (hi : i < 100)
    (a b : Int) (dI kI : Int) (k : Nat) (hk0 : 0 < k) (hk : kI = k) (ta tb td tp tq : Tok) :
    Spc prog w (Mine.hd.heap_1 w.params) 49 [.ref game, .int a ta, .int b tb, .int dI td, .int kI tp, .int 0 tq] [] 2 6 (GameR w game pa kids cks drs) [(pa, pathOf us i t n)]
     (fun _ r nw => ABP pa us i t a b 0 r nw) := by
  subst hk
  refine' Spc.intro (dp := 1) (un := 3) (binds := [nv "game" (.ref game), nv "alpha" (.int a ta), nv "beta" (.int b tb), nv "depth" (.int dI td), nv "ply" (.int (k : Int) tp), nv "qdepth" (.int 0 tq)]) ?k6 ?k7 (fun s => BindsTo.of_eq ?kb) (locs ?kl) ?_ ?c1 ?c2 ?c3 ?c4
  walk_at "my cases"
  intro A g L h₁ s tk p loose mg mb QF hQF hh hd hu F N hlt X T hR
  obtain ⟨dx, ch, va, ck, dr, mk, gn, t1, t2, t3, t4, t5, t6, t7, rs, n1, vs, n2, n3, n4, g1, g2, -⟩ := hR.ex
  walk_at "my steps"
  exact ⟨_, sub_self, ⟨_, rfl⟩, _, _, rfl, Bnd.refl⟩

set_option pp.deepTerms false in
set_option pp.maxSteps 3000 in
set_option maxHeartbeats 400000 in
theorem ab_leaf {prog : Program} (w : World) (game pa : Addr) (kids : List (List Int)) (cks drs : List Bool) (us : List Value) (i : Nat) (t : Tok) (n : Nat) (c : Bool) (hc : cks[i]? = some c) (hdr : drs[i]? = some false) (row : List Int) (hrow : kids[i]? = some row) (hrz : row = []) (hi : i < 100)
    (a b : Int) (dI kI : Int) (hdI : dI = 0) (k : Nat) (hk : kI = k) (ta tb td tp tq : Tok) :
    Spc prog w (Mine.hd.heap_1 w.params) 49 [.ref game, .int a ta, .int b tb, .int dI td, .int kI tp, .int 0 tq] [] 4 12 (GameR w game pa kids cks drs) [(pa, pathOf us i t n)]
     (fun _ r nw => ABP pa us i t a b (leafV false c k) r nw) := by
  subst hk
  subst hdI
  refine' Spc.intro (dp := 3) (un := 9) (binds := [nv "game" (.ref game), nv "alpha" (.int a ta), nv "beta" (.int b tb), nv "depth" (.int 0 td), nv "ply" (.int (k : Int) tp), nv "qdepth" (.int 0 tq)]) ?k6 ?k7 (fun s => BindsTo.of_eq ?kb) (locs ?kl) ?_ ?c1 ?c2 ?c3 ?c4
  walk_at "my cases"
  intro A g L h₁ s tk p loose mg mb QF hQF hh hd hu F N hlt X T hR
  obtain ⟨dx, ch, va, ck, dr, mk, gn, t1, t2, t3, t4, t5, t6, t7, rs, n1, vs, n2, n3, n4, g1, g2, -⟩ := hR.ex
  walk_at "my steps"
  all_goals (exact ⟨_, sub_self, ⟨_, rfl⟩, _, _, rfl, Bnd.refl⟩)
end Mine
namespace Mine
def ABC (prog : Program) (w : World) (after : Int → List Int) (lost : Int → Bool) (D : Nat) (nodes : List (Int × Nat)) (kids : List (List Int)) (cks drs : List Bool) (d : Nat) : Prop :=
  ∀ (game pa : Addr) (us : List Value) (i : Nat) (t : Tok) (n : Nat) (p : Int) (k : Nat) (a b dI kI : Int) (ta tb td tp tq : Tok), nodes[i]? = some (p, k) → d + k = D → (p = -1 → 0 < k) → -32001 ≤ a → a < b → b ≤ 32001 → us.length + d < 90 → dI = d → kI = k →
    Spc prog w (Mine.hd.heap_1 w.params) 49 [.ref game, .int a ta, .int b tb, .int dI td, .int kI tp, .int 0 tq] [] (d + 5) (3 * (d + 5)) (GameR w game pa kids cks drs) [(pa, pathOf us i t n)]
      (fun _ r nw => ABP pa us i t a b (NM after lost d p k) r nw)

def ABJ (after : Int → List Int) (lost : Int → Bool) (game pa l : Addr) (us : List Value) (i : Nat) (t : Tok) (ys : List Value) (n0 : Nat) (d k : Nat) (p a b : Int) (tb td tp tq : Tok) (j : Nat) (ps : List (Str × Value)) (led : List (Addr × Obj)) : Prop :=
  ∃ bs ca tbs tca n', ps = [nv "game" (.ref game), nv "alpha" (.int ca tca), nv "beta" (.int b tb), nv "depth" (.int ((d + 1 : Nat) : Int) td), nv "ply" (.int (k : Int) tp), nv "qdepth" (.int 0 tq), nv "best" (.int bs tbs)] ∧
    led = [(pa, pathOf us i t n'), (l, listOf (List.toArray ys) n0)] ∧ ca = max a bs ∧ ca < b ∧ -32001 ≤ bs ∧ (bs ≤ a → best after lost d p k j ≤ bs) ∧ (a < bs → bs = best after lost d p k j)

set_option pp.deepTerms false in
set_option pp.maxSteps 3000 in
set_option maxHeartbeats 1000000 in
theorem ab_step {prog : Program} (w : World) {after : Int → List Int} {lost : Int → Bool} {D : Nat} {nodes : List (Int × Nat)} {kids : List (List Int)} {cks drs : List Bool} (TO : TreeOk after lost D nodes kids cks drs) (d : Nat)
    (IH : ABC prog w after lost D nodes kids cks drs d) (game pa : Addr) (us : List Value) (i : Nat) (t : Tok) (n : Nat) (p : Int) (k : Nat) (a b dI kI : Int) (ta tb td tp tq : Tok) (hnode : nodes[i]? = some (p, k)) (hD : d + 1 + k = D) (hp : p ≠ -1)
    (ha : -32001 ≤ a) (hab : a < b) (hb : b ≤ 32001) (hus : us.length + (d + 1) < 90) (hdI : dI = (d + 1 : Nat)) (hk : kI = k) :
    Spc prog w (Mine.hd.heap_1 w.params) 49 [.ref game, .int a ta, .int b tb, .int dI td, .int kI tp, .int 0 tq] [] (d + 6) (3 * (d + 6)) (GameR w game pa kids cks drs) [(pa, pathOf us i t n)]
     (fun _ r nw => ABP pa us i t a b (NM after lost (d + 1) p k) r nw) := by
  subst hk
  subst hdI
  obtain ⟨hc, hdr, row, hrow, hrz, -, -, hnd⟩ := TO.node i p k hnode
  obtain ⟨hlen, hkid⟩ := hnd hp (by omega)
  have hi : i < 100 := Nat.lt_trans (List.getElem?_eq_some_iff.mp hnode).1 TO.small
  have hp' : (p == -1) = false := by simpa using hp
  rw [hp'] at hdr
  have hrl : row.length ≤ 100 := by omega
  have hus' : us.length < 100 := by omega
  refine' Spc.intro (dp := d + 5) (un := 3 * (d + 5)) (binds := [nv "game" (.ref game), nv "alpha" (.int a ta), nv "beta" (.int b tb), nv "depth" (.int ((d + 1 : Nat) : Int) td), nv "ply" (.int (k : Int) tp), nv "qdepth" (.int 0 tq)]) ?k6 ?k7 (fun s => BindsTo.of_eq ?kb) (locs ?kl) ?_ ?c1 ?c2 ?c3 ?c4
  walk_at "my cases"
  intro A g L h₁ s tk pg loose mg mb QF hQF hh hd hu F N hlt X T hR
  obtain ⟨dx, ch, va, ck, dr, mk, gn, t1, t2, t3, t4, t5, t6, t7, rs, n1, vs, n2, n3, n4, g1, g2, -⟩ := hR.ex
  walk_at "my steps"
  all_goals try
    (rename List.isEmpty _ = true => he
     rename List.length _ = row.length => hIl
     have hz : after p = [] := by
       rw [List.isEmpty_iff.mp he] at hIl
       exact List.length_eq_zero_iff.mp (by rw [← hlen, ← hIl]; rfl)
     rename (p != -1 && lost p) = _ => hcv
     refine ⟨_, (by walk_at "my sub"), ⟨_, rfl⟩, _, _, rfl, ?_⟩
     rw [NM_end hp hz, hcv]
     exact Bnd.refl)
  all_goals
    rename List.isEmpty _ = false => he
    rename List.length _ = row.length => hIl
    rename IntsAre _ (rangeInts _ _ _) => hI
    rename News _ _ _ _ => N2
    rename Fr _ _ _ _ => F2
    rename_i l ys n0 hlp hne1 h3 h4
    have hne : after p ≠ [] := by
      intro e
      rw [e] at hlen
      rw [List.length_eq_zero_iff.mp (hIl.trans hlen)] at he
      cases he
    refine ⟨for_any F2 rfl rfl ?_⟩
    walk_at "my steps"
    refine ⟨for_list hh F2 N2 (isList_of (N2 _ (.head _)).1) (N2 _ (.head _)).2.1 (ABJ after lost game pa l us i t ys n0 d k p a b tb td tp tq) [nv "game" (.ref game), nv "alpha" (.int a ta), nv "beta" (.int b tb), nv "depth" (.int ((d + 1 : Nat) : Int) td), nv "ply" (.int (k : Int) tp), nv "qdepth" (.int 0 tq), nv "best" (.int (-32001) _)] [(pa, pathOf us i t n), (l, listOf (List.toArray ys) n0)]
      (by walk_at "my ps") (by walk_at "my sub") ⟨-32001, a, _, _, n, rfl, rfl, by omega, hab, by omega, fun _ => by rw [best_zero]; exact Int.le_refl _, fun h => absurd h (by omega)⟩ ?turn ?done⟩
    case turn =>
      rintro j v ps led u h5 tk5 own TQ hTQ hv ⟨bs, ca, tbs, tca, n', rfl, rfl, hca, hcb, hbs, hb1, hb2⟩ F5 N5 hoff
      simp only [List.cons_append, List.nil_append] at N5
      have o1 : ∀ q ∈ own, q.1 ≠ pa := hoff _ (.head _) (Ne.symm hlp)
      obtain ⟨nn, tv, rfl, hn⟩ := hI.at j v (by simpa using hv)
      have hj : j < row.length := by
        have := (List.getElem?_eq_some_iff.mp hn).1
        rwa [rangeInts_length] at this
      rw [rangeInts_get hj] at hn
      obtain rfl : nn = (j : Int) + 1 := by have := Option.some.inj hn; omega
      obtain ⟨q, hq⟩ : ∃ q, (after p)[j]? = some q := ⟨_, List.getElem?_eq_getElem (hlen ▸ hj)⟩
      obtain ⟨c, hcj, hnc⟩ := hkid j q hq
      have hc100 : c < 100 := Nat.lt_trans (List.getElem?_eq_some_iff.mp hnc).1 TO.small
      have hbs1 := best_succ (lost := lost) (d := d) (k := k) hq
      have hble := best_le (after := after) (lost := lost) (d := d) (k := k) (j := j + 1) hp hne
      walk_at "my steps"
      refine ⟨callG hR (IH game pa (us ++ [.int (i : Int) t]) c _ _ q (k + 1) (-b) (-ca) _ _ _ _ _ _ _ hnc (by omega) (fun _ => by omega) (by omega) (by omega) (by omega) (by simp; omega) (by omega) (by omega)) (by assumption) (by omega) (by omega) (by assumption) (by assumption) (by assumption) (by assumption) (by walk_at "my pick") (by walk_at "my all") ?_⟩
      rintro g' r' nw' h' tk' F' N' hne' ⟨⟨n9, rfl⟩, x, tx, rfl, hB1, hB2, hB3⟩
      simp only [List.cons_append, List.nil_append] at N'
      have fin : ∀ (h7 : Heap) (tk7 : Nat) (m7 : Str → Option Value) (bs' ca' : Int) (tb' tc' : Tok) (n7 : Nat), Fr g L h7 m7 → News g L h7 ((pa, pathOf us i t n7) :: (l, listOf (List.toArray ys) n0) :: own) →
          (∀ p ∈ [nv "game" (.ref game), nv "alpha" (.int ca' tc'), nv "beta" (.int b tb), nv "depth" (.int ((d + 1 : Nat) : Int) td), nv "ply" (.int (k : Int) tp), nv "qdepth" (.int 0 tq), nv "best" (.int bs' tb')], m7 p.1 = some p.2) →
          ca' = max a bs' → ca' < b → -32001 ≤ bs' → (bs' ≤ a → best after lost d p k (j + 1) ≤ bs') → (a < bs' → bs' = best after lost d p k (j + 1)) →
          Hold (TEnd g L (.type "list_iterator") own (ABJ after lost game pa l us i t ys n0 d k p a b tb td tp tq (j + 1)) { s with heap := h5, toks := tk5 } { s with heap := h7, toks := tk7 }) :=
        fun h7 tk7 m7 bs' ca' tb' tc' n7 F7 N7 hp7 e1 e2 e3 e4 e5 => TEnd.of F7 N7 ⟨bs', ca', tb', tc', n7, rfl, rfl, e1, e2, e3, e4, e5⟩ hp7 (by walk_at "my sub") (by walk_at "my sub") (by walk_at "my cls")
      walk_at "my steps"
      all_goals first
        | exact ⟨_, (by walk_at "my sub"), ⟨_, rfl⟩, _, _, rfl, fun _ => by omega, fun _ => by omega, fun _ _ => by omega⟩
        | exact fin _ _ _ (-x) (-x) _ _ _ (by assumption) (by assumption) (by walk_at "my ps") (by omega) (by omega) (by omega) (fun _ => by omega) (fun _ => by omega)
        | exact fin _ _ _ (-x) ca _ _ _ (by assumption) (by assumption) (by walk_at "my ps") (by omega) (by omega) (by omega) (fun _ => by omega) (fun _ => by omega)
        | exact fin _ _ _ bs ca _ _ _ (by assumption) (by assumption) (by walk_at "my ps") (by omega) (by omega) (by omega) (fun _ => by omega) (fun _ => by omega)
    case done =>
      rintro ps led u h5 tk5 ⟨bs, ca, tbs, tca, n', rfl, rfl, hca, hcb, hbs, hb1, hb2⟩ F5 N5
      walk_at "my steps"
      have hsz : ys.toArray.size = (after p).length := by rw [List.size_toArray, hIl, hlen]
      rw [hsz, best_all hp hne] at hb1 hb2
      exact ⟨_, (by walk_at "my sub"), ⟨_, rfl⟩, _, _, rfl, hb1, fun h => absurd h (by omega), fun h _ => hb2 h⟩
end Mine
namespace Mine
theorem ab_all {prog : Program} (w : World) {after : Int → List Int} {lost : Int → Bool} {D : Nat} {nodes : List (Int × Nat)} {kids : List (List Int)} {cks drs : List Bool} (TO : TreeOk after lost D nodes kids cks drs) :
    ∀ d, ABC prog w after lost D nodes kids cks drs d := by
  intro d
  induction d with
  | zero =>
    intro game pa us i t n p k a b dI kI ta tb td tp tq hnode hD hpk ha hab hb hus hdI hk
    obtain ⟨hc, hdr, row, hrow, hrz, hr1, hr2, -⟩ := TO.node i p k hnode
    have hi : i < 100 := Nat.lt_trans (List.getElem?_eq_some_iff.mp hnode).1 TO.small
    by_cases hp : p = -1
    · subst hp
      rw [NM_draw (hpk rfl)]
      exact (ab_draw w game pa kids cks drs us i t n hdr hi a b dI kI k (hpk rfl) hk ta tb td tp tq).weaken (by omega) (by omega)
    · have hp' : (p == -1) = false := by simpa using hp
      rw [hp'] at hdr
      have := ab_leaf (prog := prog) w game pa kids cks drs us i t n _ hc hdr row hrow (hr2 (by omega)) hi a b dI kI hdI k hk ta tb td tp tq
      have e : NM after lost 0 p k = leafV false (p != -1 && lost p) k := by simp only [NM, hp']
      rw [e]
      exact this.weaken (by omega) (by omega)
  | succ d IH =>
    intro game pa us i t n p k a b dI kI ta tb td tp tq hnode hD hpk ha hab hb hus hdI hk
    obtain ⟨hc, hdr, row, hrow, hrz, hr1, hr2, -⟩ := TO.node i p k hnode
    have hi : i < 100 := Nat.lt_trans (List.getElem?_eq_some_iff.mp hnode).1 TO.small
    by_cases hp : p = -1
    · subst hp
      rw [NM_draw (hpk rfl)]
      exact (ab_draw w game pa kids cks drs us i t n hdr hi a b dI kI k (hpk rfl) hk ta tb td tp tq).weaken (by omega) (by omega)
    · exact ab_step w TO d IH game pa us i t n p k a b dI kI ta tb td tp tq hnode hD hp ha hab hb hus hdI hk
end Mine
namespace Mine
def NMP (pa : Addr) (us : List Value) (i : Nat) (t : Tok) (v : Int) (r : Value) (nw : List (Addr × Obj)) : Prop := (∃ n', nw = [(pa, pathOf us i t n')]) ∧ ∃ t', r = .int v t'

set_option pp.deepTerms false in
set_option pp.maxSteps 3000 in
set_option maxHeartbeats 400000 in
theorem nm_draw {prog : Program} (w : World) (game pa : Addr) (kids : List (List Int)) (cks drs : List Bool) (us : List Value) (i : Nat) (t : Tok) (n : Nat) (hdr : drs[i]? = some true) (hi : i < 100)
    (dI kI : Int) (k : Nat) (hk0 : 0 < k) (hk : kI = k) (td tp tq : Tok) :
    Spc prog w (Mine.hd.heap_1 w.params) 70 [.ref game, .int dI td, .int kI tp, .int 0 tq] [] 2 6 (GameR w game pa kids cks drs) [(pa, pathOf us i t n)]
     (fun _ r nw => NMP pa us i t 0 r nw) := by
  subst hk
  refine' Spc.intro (dp := 1) (un := 3) (binds := [nv "game" (.ref game), nv "depth" (.int dI td), nv "ply" (.int (k : Int) tp), nv "qdepth" (.int 0 tq)]) ?k6 ?k7 (fun s => BindsTo.of_eq ?kb) (locs ?kl) ?_ ?c1 ?c2 ?c3 ?c4
  walk_at "my cases"
  intro A g L h₁ s tk p loose mg mb QF hQF hh hd hu F N hlt X T hR
  obtain ⟨dx, ch, va, ck, dr, mk, gn, t1, t2, t3, t4, t5, t6, t7, rs, n1, vs, n2, n3, n4, g1, g2, -⟩ := hR.ex
  walk_at "my steps"
  exact ⟨_, sub_self, ⟨_, rfl⟩, _, rfl⟩

set_option pp.deepTerms false in
set_option pp.maxSteps 3000 in
set_option maxHeartbeats 400000 in
theorem nm_leaf {prog : Program} (w : World) (game pa : Addr) (kids : List (List Int)) (cks drs : List Bool) (us : List Value) (i : Nat) (t : Tok) (n : Nat) (c : Bool) (hc : cks[i]? = some c) (hdr : drs[i]? = some false) (row : List Int) (hrow : kids[i]? = some row) (hrz : row = []) (hi : i < 100)
    (dI kI : Int) (hdI : dI = 0) (k : Nat) (hk : kI = k) (td tp tq : Tok) :
    Spc prog w (Mine.hd.heap_1 w.params) 70 [.ref game, .int dI td, .int kI tp, .int 0 tq] [] 4 12 (GameR w game pa kids cks drs) [(pa, pathOf us i t n)]
     (fun _ r nw => NMP pa us i t (leafV false c k) r nw) := by
  subst hk
  subst hdI
  refine' Spc.intro (dp := 3) (un := 9) (binds := [nv "game" (.ref game), nv "depth" (.int 0 td), nv "ply" (.int (k : Int) tp), nv "qdepth" (.int 0 tq)]) ?k6 ?k7 (fun s => BindsTo.of_eq ?kb) (locs ?kl) ?_ ?c1 ?c2 ?c3 ?c4
  walk_at "my cases"
  intro A g L h₁ s tk p loose mg mb QF hQF hh hd hu F N hlt X T hR
  obtain ⟨dx, ch, va, ck, dr, mk, gn, t1, t2, t3, t4, t5, t6, t7, rs, n1, vs, n2, n3, n4, g1, g2, -⟩ := hR.ex
  walk_at "my steps"
  all_goals (exact ⟨_, sub_self, ⟨_, rfl⟩, _, rfl⟩)
end Mine
namespace Mine
def NMC (prog : Program) (w : World) (after : Int → List Int) (lost : Int → Bool) (D : Nat) (nodes : List (Int × Nat)) (kids : List (List Int)) (cks drs : List Bool) (d : Nat) : Prop :=
  ∀ (game pa : Addr) (us : List Value) (i : Nat) (t : Tok) (n : Nat) (p : Int) (k : Nat) (dI kI : Int) (td tp tq : Tok), nodes[i]? = some (p, k) → d + k = D → (p = -1 → 0 < k) → us.length + d < 90 → dI = d → kI = k →
    Spc prog w (Mine.hd.heap_1 w.params) 70 [.ref game, .int dI td, .int kI tp, .int 0 tq] [] (d + 5) (3 * (d + 5)) (GameR w game pa kids cks drs) [(pa, pathOf us i t n)]
      (fun _ r nw => NMP pa us i t (NM after lost d p k) r nw)

def NMJ (after : Int → List Int) (lost : Int → Bool) (game pa l : Addr) (us : List Value) (i : Nat) (t : Tok) (ys : List Value) (n0 : Nat) (d k : Nat) (p : Int) (td tp tq : Tok) (j : Nat) (ps : List (Str × Value)) (led : List (Addr × Obj)) : Prop :=
  ∃ tbs n', ps = [nv "game" (.ref game), nv "depth" (.int ((d + 1 : Nat) : Int) td), nv "ply" (.int (k : Int) tp), nv "qdepth" (.int 0 tq), nv "best" (.int (best after lost d p k j) tbs)] ∧
    led = [(pa, pathOf us i t n'), (l, listOf (List.toArray ys) n0)]

set_option pp.deepTerms false in
set_option pp.maxSteps 3000 in
set_option maxHeartbeats 1000000 in
theorem nm_step {prog : Program} (w : World) {after : Int → List Int} {lost : Int → Bool} {D : Nat} {nodes : List (Int × Nat)} {kids : List (List Int)} {cks drs : List Bool} (TO : TreeOk after lost D nodes kids cks drs) (d : Nat)
    (IH : NMC prog w after lost D nodes kids cks drs d) (game pa : Addr) (us : List Value) (i : Nat) (t : Tok) (n : Nat) (p : Int) (k : Nat) (dI kI : Int) (td tp tq : Tok) (hnode : nodes[i]? = some (p, k)) (hD : d + 1 + k = D) (hp : p ≠ -1)
    (hus : us.length + (d + 1) < 90) (hdI : dI = (d + 1 : Nat)) (hk : kI = k) :
    Spc prog w (Mine.hd.heap_1 w.params) 70 [.ref game, .int dI td, .int kI tp, .int 0 tq] [] (d + 6) (3 * (d + 6)) (GameR w game pa kids cks drs) [(pa, pathOf us i t n)]
     (fun _ r nw => NMP pa us i t (NM after lost (d + 1) p k) r nw) := by
  subst hk
  subst hdI
  obtain ⟨hc, hdr, row, hrow, hrz, -, -, hnd⟩ := TO.node i p k hnode
  obtain ⟨hlen, hkid⟩ := hnd hp (by omega)
  have hi : i < 100 := Nat.lt_trans (List.getElem?_eq_some_iff.mp hnode).1 TO.small
  have hp' : (p == -1) = false := by simpa using hp
  rw [hp'] at hdr
  have hrl : row.length ≤ 100 := by omega
  have hus' : us.length < 100 := by omega
  refine' Spc.intro (dp := d + 5) (un := 3 * (d + 5)) (binds := [nv "game" (.ref game), nv "depth" (.int ((d + 1 : Nat) : Int) td), nv "ply" (.int (k : Int) tp), nv "qdepth" (.int 0 tq)]) ?k6 ?k7 (fun s => BindsTo.of_eq ?kb) (locs ?kl) ?_ ?c1 ?c2 ?c3 ?c4
  walk_at "my cases"
  intro A g L h₁ s tk pg loose mg mb QF hQF hh hd hu F N hlt X T hR
  obtain ⟨dx, ch, va, ck, dr, mk, gn, t1, t2, t3, t4, t5, t6, t7, rs, n1, vs, n2, n3, n4, g1, g2, -⟩ := hR.ex
  walk_at "my steps"
  all_goals try
    (rename List.isEmpty _ = true => he
     rename List.length _ = row.length => hIl
     have hz : after p = [] := by
       rw [List.isEmpty_iff.mp he] at hIl
       exact List.length_eq_zero_iff.mp (by rw [← hlen, ← hIl]; rfl)
     rw [NM_end hp hz]
     exact ⟨_, (by walk_at "my sub"), ⟨_, rfl⟩, _, rfl⟩)
  all_goals
    rename List.isEmpty _ = false => he
    rename List.length _ = row.length => hIl
    rename IntsAre _ (rangeInts _ _ _) => hI
    rename News _ _ _ _ => N2
    rename Fr _ _ _ _ => F2
    rename_i l ys n0 hlp hne1 h3 h4
    have hne : after p ≠ [] := by
      intro e
      rw [e] at hlen
      rw [List.length_eq_zero_iff.mp (hIl.trans hlen)] at he
      cases he
    refine ⟨for_any F2 rfl rfl ?_⟩
    walk_at "my steps"
    refine ⟨for_list hh F2 N2 (isList_of (N2 _ (.head _)).1) (N2 _ (.head _)).2.1 (NMJ after lost game pa l us i t ys n0 d k p td tp tq) [nv "game" (.ref game), nv "depth" (.int ((d + 1 : Nat) : Int) td), nv "ply" (.int (k : Int) tp), nv "qdepth" (.int 0 tq), nv "best" (.int (-32001) _)] [(pa, pathOf us i t n), (l, listOf (List.toArray ys) n0)]
      (by walk_at "my ps") (by walk_at "my sub") ⟨_, n, by rw [best_zero], rfl⟩ ?turn ?done⟩
    case turn =>
      rintro j v ps led u h5 tk5 own TQ hTQ hv ⟨tbs, n', rfl, rfl⟩ F5 N5 hoff
      simp only [List.cons_append, List.nil_append] at N5
      have o1 : ∀ q ∈ own, q.1 ≠ pa := hoff _ (.head _) (Ne.symm hlp)
      obtain ⟨nn, tv, rfl, hn⟩ := hI.at j v (by simpa using hv)
      have hj : j < row.length := by
        have := (List.getElem?_eq_some_iff.mp hn).1
        rwa [rangeInts_length] at this
      rw [rangeInts_get hj] at hn
      obtain rfl : nn = (j : Int) + 1 := by have := Option.some.inj hn; omega
      obtain ⟨q, hq⟩ : ∃ q, (after p)[j]? = some q := ⟨_, List.getElem?_eq_getElem (hlen ▸ hj)⟩
      obtain ⟨c, hcj, hnc⟩ := hkid j q hq
      have hc100 : c < 100 := Nat.lt_trans (List.getElem?_eq_some_iff.mp hnc).1 TO.small
      have hbs1 := best_succ (lost := lost) (d := d) (k := k) hq
      walk_at "my steps"
      refine ⟨callG hR (IH game pa (us ++ [.int (i : Int) t]) c _ _ q (k + 1) _ _ _ _ _ hnc (by omega) (fun _ => by omega) (by simp; omega) (by omega) (by omega)) (by assumption) (by omega) (by omega) (by assumption) (by assumption) (by assumption) (by assumption) (by walk_at "my pick") (by walk_at "my all") ?_⟩
      rintro g' r' nw' h' tk' F' N' hne' ⟨⟨n9, rfl⟩, tx, rfl⟩
      simp only [List.cons_append, List.nil_append] at N'
      have fin : ∀ (h7 : Heap) (tk7 : Nat) (m7 : Str → Option Value) (bs' : Int) (tb' : Tok) (n7 : Nat), Fr g L h7 m7 → News g L h7 ((pa, pathOf us i t n7) :: (l, listOf (List.toArray ys) n0) :: own) →
          (∀ p ∈ [nv "game" (.ref game), nv "depth" (.int ((d + 1 : Nat) : Int) td), nv "ply" (.int (k : Int) tp), nv "qdepth" (.int 0 tq), nv "best" (.int bs' tb')], m7 p.1 = some p.2) →
          bs' = best after lost d p k (j + 1) →
          Hold (TEnd g L (.type "list_iterator") own (NMJ after lost game pa l us i t ys n0 d k p td tp tq (j + 1)) { s with heap := h5, toks := tk5 } { s with heap := h7, toks := tk7 }) :=
        fun h7 tk7 m7 bs' tb' n7 F7 N7 hp7 e1 => TEnd.of F7 N7 ⟨tb', n7, by rw [e1], rfl⟩ hp7 (by walk_at "my sub") (by walk_at "my sub") (by walk_at "my cls")
      walk_at "my steps"
      all_goals first
        | exact fin _ _ _ (-(NM after lost d q (k + 1))) _ _ (by assumption) (by assumption) (by walk_at "my ps") (by omega)
        | exact fin _ _ _ (best after lost d p k j) _ _ (by assumption) (by assumption) (by walk_at "my ps") (by omega)
    case done =>
      rintro ps led u h5 tk5 ⟨tbs, n', rfl, rfl⟩ F5 N5
      walk_at "my steps"
      have hsz : ys.toArray.size = (after p).length := by rw [List.size_toArray, hIl, hlen]
      rw [hsz, best_all hp hne]
      exact ⟨_, (by walk_at "my sub"), ⟨_, rfl⟩, _, rfl⟩
end Mine
namespace Mine
theorem nm_all {prog : Program} (w : World) {after : Int → List Int} {lost : Int → Bool} {D : Nat} {nodes : List (Int × Nat)} {kids : List (List Int)} {cks drs : List Bool} (TO : TreeOk after lost D nodes kids cks drs) :
    ∀ d, NMC prog w after lost D nodes kids cks drs d := by
  intro d
  induction d with
  | zero =>
    intro game pa us i t n p k dI kI td tp tq hnode hD hpk hus hdI hk
    obtain ⟨hc, hdr, row, hrow, hrz, hr1, hr2, -⟩ := TO.node i p k hnode
    have hi : i < 100 := Nat.lt_trans (List.getElem?_eq_some_iff.mp hnode).1 TO.small
    by_cases hp : p = -1
    · subst hp
      rw [NM_draw (hpk rfl)]
      exact (nm_draw w game pa kids cks drs us i t n hdr hi dI kI k (hpk rfl) hk td tp tq).weaken (by omega) (by omega)
    · have hp' : (p == -1) = false := by simpa using hp
      rw [hp'] at hdr
      have := nm_leaf (prog := prog) w game pa kids cks drs us i t n _ hc hdr row hrow (hr2 (by omega)) hi dI kI hdI k hk td tp tq
      have e : NM after lost 0 p k = leafV false (p != -1 && lost p) k := by simp only [NM, hp']
      rw [e]
      exact this.weaken (by omega) (by omega)
  | succ d IH =>
    intro game pa us i t n p k dI kI td tp tq hnode hD hpk hus hdI hk
    obtain ⟨hc, hdr, row, hrow, hrz, hr1, hr2, -⟩ := TO.node i p k hnode
    have hi : i < 100 := Nat.lt_trans (List.getElem?_eq_some_iff.mp hnode).1 TO.small
    by_cases hp : p = -1
    · subst hp
      rw [NM_draw (hpk rfl)]
      exact (nm_draw w game pa kids cks drs us i t n hdr hi dI kI k (hpk rfl) hk td tp tq).weaken (by omega) (by omega)
    · exact nm_step w TO d IH game pa us i t n p k dI kI td tp tq hnode hD hp hus hdI hk
end Mine
namespace Mine
structure SolveR (sd af lo : Addr) (ss : List Int) (rows : List (List Int)) (ls : List Bool) (g : Heap) : Prop where
  ex : ∃ sv n1 rs n2 n3, g.get? sd = some (listOf (List.toArray sv) n1) ∧ IntsAre sv ss ∧ g.get? af = some (listOf (List.toArray rs) n2) ∧ Rows g rs rows ∧ g.get? lo = some (listOf (List.toArray (ls.map Value.bool)) n3)
theorem SolveR.mono {sd af lo : Addr} {ss : List Int} {rows : List (List Int)} {ls : List Bool} {g g' : Heap} (h : SolveR sd af lo ss rows ls g) (k : g.StaysIn g') : SolveR sd af lo ss rows ls g' :=
  let ⟨sv, n1, rs, n2, n3, a, b, c, d, e⟩ := h.ex
  .mk ⟨sv, n1, rs, n2, n3, k _ _ a, b, k _ _ c, d.mono k, k _ _ e⟩

/-- what solve gives back -/
def SolvedVals (ss : List Int) (rows : List (List Int)) (ls : List Bool) (vals : List Int) : Prop :=
  ∃ a, a = (runS ss (iniAll rows ls rows.length).befs (iniAll rows ls rows.length).st a).q.length ∧ (∀ a', a' < a → a' < (runS ss (iniAll rows ls rows.length).befs (iniAll rows ls rows.length).st a').q.length) ∧
    vals = (runS ss (iniAll rows ls rows.length).befs (iniAll rows ls rows.length).st a).vals

def BefJ (i : Nat) (rest : List (Addr × Obj)) (ys : List Value) (news : List (Addr × Obj)) : Prop :=
  ∃ bs bl, ys = bs.map Value.ref ∧ news = bl ++ rest ∧ BLed bs (List.replicate i []) bl ∧ bs.Nodup ∧ ∀ b ∈ bs, ∀ p ∈ rest, b ≠ p.1

/-- the objects of solve while it builds -/
def IniAt (va le be qu : Addr) (bs : List Addr) (nb : Nat) (ex : List (Addr × Obj)) (x : Ini) (led : List (Addr × Obj)) : Prop :=
  ∃ vv nv lv nl qv nq bl, led = (va, listOf (List.toArray vv) nv) :: (le, listOf (List.toArray lv) nl) :: (qu, listOf (List.toArray qv) nq) :: (be, listOf (List.toArray (bs.map Value.ref)) nb) :: (bl ++ ex) ∧
    IntsAre vv x.vals ∧ IntsAre lv x.lefts ∧ IntsAre qv x.q ∧ BLed bs x.befs bl
abbrev solvePs (sd af lo va le be qu : Addr) : List (Str × Value) := [nv "sides" (.ref sd), nv "after" (.ref af), nv "lost" (.ref lo), nv "values" (.ref va), nv "left" (.ref le), nv "before" (.ref be), nv "queue" (.ref qu)]
/-- where they lie -/
structure Apart (va le be qu : Addr) (bs : List Addr) : Prop where
  vl : va ≠ le
  vb : va ≠ be
  vq : va ≠ qu
  lb : le ≠ be
  lq : le ≠ qu
  bq : be ≠ qu
  v : ∀ b ∈ bs, va ≠ b
  l : ∀ b ∈ bs, le ≠ b
  b : ∀ b ∈ bs, be ≠ b
  q : ∀ b ∈ bs, qu ≠ b
  nd : bs.Nodup

def IniJ (sd af lo va le be qu : Addr) (bs : List Addr) (nb : Nat) (rows : List (List Int)) (ls : List Bool) (i : Nat) (ps : List (Str × Value)) (led : List (Addr × Obj)) : Prop :=
  ps = solvePs sd af lo va le be qu ∧ IniAt va le be qu bs nb [] (iniAll rows ls i) led
def IniJ2 (sd af lo va le be qu : Addr) (bs : List Addr) (nb : Nat) (ex : List (Addr × Obj)) (row : List Int) (x : Ini) (i : Nat) (tn : Tok) (j : Nat) (ps : List (Str × Value)) (led : List (Addr × Obj)) : Prop :=
  ps = nv "n" (.int (i : Int) tn) :: solvePs sd af lo va le be qu ∧ IniAt va le be qu bs nb ex ⟨x.vals, x.lefts ++ [(row.length : Int)], x.q, (row.take j).foldl (putBef i) x.befs⟩ led

def RunJ (sd af lo va le be qu : Addr) (bs : List Addr) (nb : Nat) (ss : List Int) (befs : List (List Int)) (st0 : St) (N n : Nat) (ps : List (Str × Value)) (led : List (Addr × Obj)) : Prop :=
  ∃ (a : Nat) (t : Tok), n = N - a ∧ ps = nv "at" (.int (a : Int) t) :: solvePs sd af lo va le be qu ∧ IniAt va le be qu bs nb [] ⟨(runS ss befs st0 a).vals, (runS ss befs st0 a).lefts, (runS ss befs st0 a).q, befs⟩ led ∧
    (∀ a', a' < a → a' < (runS ss befs st0 a').q.length) ∧ a ≤ (runS ss befs st0 a).q.length
def RunJ2 (sd af lo va le be qu : Addr) (bs : List Addr) (nb : Nat) (ss : List Int) (befs : List (List Int)) (st : St) (row : List Int) (mm : Nat) (tm : Tok) (a : Int) (ta : Tok) (j : Nat) (ps : List (Str × Value)) (led : List (Addr × Obj)) : Prop :=
  ps = nv "m" (.int (mm : Int) tm) :: nv "at" (.int a ta) :: solvePs sd af lo va le be qu ∧
  IniAt va le be qu bs nb [] ⟨((row.take j).foldl (relax ss mm) st).vals, ((row.take j).foldl (relax ss mm) st).lefts, ((row.take j).foldl (relax ss mm) st).q, befs⟩ led

theorem ints_replicate {x : Int} {t : Tok} : ∀ {k : Nat}, IntsAre (List.replicate k (Value.int x t)) (List.replicate k x)
  | 0 => .nil
  | _ + 1 => .cons x t ints_replicate
theorem flatten_one {α : Type} {x : α} {k : Nat} : (List.replicate k [x]).flatten = List.replicate k x := by
  induction k with
  | zero => rfl
  | succ k ih => simp [List.replicate_succ, ih]

set_option pp.deepTerms false in
set_option pp.maxSteps 3000 in
set_option maxHeartbeats 1000000 in
theorem solve_spec {prog : Program} (w : World) (sd af lo : Addr) (ss : List Int) (rows : List (List Int)) (ls : List Bool) (hfit : Fit ss rows ls) :
    Spc prog w (Mine.hd.heap_1 w.params) 75 [.ref sd, .ref af, .ref lo] [] 2 6 (SolveR sd af lo ss rows ls) []
     (fun _ r nw => ∃ va vv nv vals, nw = [(va, listOf (List.toArray vv) nv)] ∧ r = .ref va ∧ IntsAre vv vals ∧ SolvedVals ss rows ls vals) := by
  have hsm := hfit.small
  refine' Spc.intro (dp := 1) (un := 3) (binds := [nv "sides" (.ref sd), nv "after" (.ref af), nv "lost" (.ref lo)]) ?k6 ?k7 (fun s => BindsTo.of_eq ?kb) (locs ?kl) ?_ ?c1 ?c2 ?c3 ?c4
  walk_at "my cases"
  intro A g L h₁ s tk pg loose mg mb QF hQF hh hd hu F N hlt X T hR
  obtain ⟨sv, n1, rs, n2, n3, g1, g2, g3, g4, g5⟩ := hR.ex
  have hrl := g4.length
  walk_at "my steps"
  rename_i va hx0 hx1 nva h2 hx2 hx3 hx4 l1 hx5 tkx le hx6 l2 hx7 F2 N2
  rw [Int.toNat_natCast, flatten_one] at N2
  have N3 : News g L hx7 [(le, listOf (List.toArray []) 0), (va, listOf (List.toArray (List.replicate rs.length (Value.int (-1) 289))) 0)] := News.sub N2 (by walk_at "my sub")
  clear N2 hx1 h2 hx2 hx3 hx4
  refine ⟨LCg.CompSrc.base hh F2 N3 (isList_of g3) (by rw [sizeLine_eq]; simp; omega) fun g' => compRest_inv (n := (List.toArray rs).size) (fun i ys news => BefJ i [(le, listOf (List.toArray []) 0), (va, listOf (List.toArray (List.replicate rs.length (Value.int (-1) 289))) 0)] ys news) ?turn ?done _ 0 [] _ rfl ⟨[], [], rfl, rfl, .nil, by simp, fun _ h => nomatch h⟩ (.inl (isList_of g3))⟩
  case turn =>
    rintro i v ys news I oI C oC D m₂ h5 tk5 hi hv ⟨bs, bl, rfl, rfl, hB, hnd, hoff⟩ hS hC hx F5 N5 off ne
    walk_at "my steps"
    rename News _ _ _ _ => N6
    rename _ ∧ _ => l6
    rename_i l' h6 F6
    obtain ⟨e1, e2, e3, e4⟩ := l6
    have lt := allLt_mem e4
    have hnb : l' ∉ bs := fun h => by
      obtain ⟨o, ho⟩ := hB.addr l' h
      exact Nat.lt_irrefl _ (lt _ (List.mem_append_left _ ho))
    refine ⟨(bl ++ [(l', listOf (List.toArray []) 0)]) ++ [(le, listOf (List.toArray []) 0), (va, listOf (List.toArray (List.replicate rs.length (Value.int (-1) 289))) 0)], ?_, LCg.Off3.of fun p hp => ?_, .inl (isList_of g3),
      bs ++ [l'], bl ++ [(l', listOf (List.toArray []) 0)], by simp, rfl, by rw [List.replicate_succ']; exact hB.snoc .nil, ?_, ?_⟩
    · intro p hp
      simp only [List.mem_cons, List.mem_append, List.not_mem_nil, or_false] at hp ⊢
      rcases hp with h | h | h | ((h | h) | h | h) <;> simp [h]
    · simp only [List.mem_cons, List.mem_append, List.not_mem_nil, or_false] at hp
      rcases hp with (h | h) | h | h
      · exact off.mem p (List.mem_append_left _ h)
      · rw [h]; exact ⟨Nat.ne_of_gt e1, Nat.ne_of_gt e2, Nat.ne_of_gt e3⟩
      · exact off.mem p (List.mem_append_right _ (by simp [h]))
      · exact off.mem p (List.mem_append_right _ (by simp [h]))
    · rw [List.nodup_append]
      refine ⟨hnd, by simp, fun a ha b hb e => ?_⟩
      rw [List.mem_singleton.mp hb] at e
      exact hnb (e ▸ ha)
    · intro b hb p hp
      rcases List.mem_append.mp hb with hb | hb
      · exact hoff b hb p hp
      · rw [List.mem_singleton.mp hb]
        exact Nat.ne_of_gt (lt p (List.mem_append_right _ hp))
  case done =>
    rintro ys news ⟨bs, bl, rfl, rfl, hB, hnd, hoff⟩ hS
    rw [List.size_toArray, hrl] at hB
    refine Hold.it ⟨?_⟩
    intro be h6 tk6 F6 N6 o1
    have o1' := off1_mem o1
    walk_at "my steps"
    rename News _ _ _ _ => N7
    rename Fr _ _ _ _ => F7
    rename _ ∧ AllLt _ _ => l7
    rename_i qu h7a h7b
    obtain ⟨e1, e2⟩ := l7
    have lt := allLt_mem e2
    have hin : ∀ b ∈ bs, ∃ o, (b, o) ∈ bl := hB.addr
    have hap : Apart va le be qu bs := by
      refine ⟨Nat.ne_of_lt l2.1, ?_, ?_, ?_, ?_, Nat.ne_of_lt e1, ?_, ?_, ?_, ?_, hnd⟩
      · exact o1' (va, _) (List.mem_append_right _ (.tail _ (.head _)))
      · exact Nat.ne_of_lt (lt (va, _) (List.mem_append_right _ (.tail _ (.head _))))
      · exact o1' (le, _) (List.mem_append_right _ (.head _))
      · exact Nat.ne_of_lt (lt (le, _) (List.mem_append_right _ (.head _)))
      · exact fun b hb => (hoff b hb _ (.tail _ (.head _))).symm
      · exact fun b hb => (hoff b hb _ (.head _)).symm
      · intro b hb
        obtain ⟨o, ho⟩ := hin b hb
        exact (o1' _ (List.mem_append_left _ ho)).symm
      · intro b hb
        obtain ⟨o, ho⟩ := hin b hb
        exact Nat.ne_of_gt (lt _ (List.mem_append_left _ ho))
    have hI0 : IniAt va le be qu bs (bs.map Value.ref).length [] (iniAll rows ls 0) ((va, listOf (List.toArray (List.replicate rs.length (Value.int (-1) 289))) 0) :: (le, listOf (List.toArray []) 0) :: (qu, listOf (List.toArray []) 0) :: (be, listOf (List.toArray (bs.map Value.ref)) (bs.map Value.ref).length) :: (bl ++ [])) :=
      ⟨_, _, _, _, _, _, _, rfl, by rw [hrl]; exact ints_replicate, .nil, .nil, hB⟩
    refine ⟨for_any F7 rfl rfl ?_⟩
    walk_at "my steps"
    rename IsRange _ _ _ _ _ _ _ _ => rg
    rename Fr _ _ _ _ => F8
    rename News _ _ _ _ => N8
    refine ⟨for_range0 (n := rs.length) hh F8 N8 rg rfl (by omega) (IniJ sd af lo va le be qu bs (bs.map Value.ref).length rows ls) _ _ (by walk_at "my ps") ?led ⟨rfl, hI0⟩ ?turn ?done⟩
    case led =>
      intro p hp
      simp only [List.mem_cons, List.mem_append, List.not_mem_nil, or_false] at hp ⊢
      rcases hp with h | h | h | h | h <;> simp [h]
    case turn =>
      rintro i tn ps led u h9 tk9 own TQ hTQ hi ⟨rfl, vv, nv0, lv, nl, qv, nq, bl, rfl, i1, i2, i3, i4⟩ F9 N9 hoff9 hcl9
      simp only [List.cons_append, List.append_nil] at N9
      obtain ⟨a1, a2, a3, a4, a5, a6, a7, a8, a9, a10, a11⟩ := hap
      have hiN : i < rows.length := by omega
      obtain ⟨row, hrow⟩ : ∃ row, rows[i]? = some row := ⟨rows[i], by simp [hiN]⟩
      obtain ⟨bb, hbb⟩ : ∃ bb, ls[i]? = some bb := ⟨ls[i]'(by rw [hfit.ls]; exact hiN), by simp⟩
      obtain ⟨ra, rv, rn, hr1, hr2, hr3⟩ := g4.at i row hrow
      have hr4 := hr3.length
      have hr5 := (hfit.row row (List.mem_of_getElem? hrow)).1
      have hlo : (ls.map Value.bool)[i]? = some (.bool bb) := by simp [hbb]
      have hio := iniAll_ok rows ls i (by omega)
      have hlv := i2.length
      have hvv := i1.length
      have hqv := i3.length
      rw [hio.lefts] at hlv
      rw [hio.vals] at hvv
      have hql : (iniAll rows ls i).q.length ≤ i := nodup_len i _ hio.nodup fun x hx => ⟨(hio.q x hx).1, (hio.q x hx).2.1⟩
      have hivv : i < vv.length := by omega
      have tv : ∀ p ∈ bl ++ own, p.1 ≠ va := fun p hp => (List.mem_append.mp hp).elim (fun h => (a7 _ (i4.mem_addr p h).1).symm) (hoff9 _ (.head _) p)
      have tl : ∀ p ∈ bl ++ own, p.1 ≠ le := fun p hp => (List.mem_append.mp hp).elim (fun h => (a8 _ (i4.mem_addr p h).1).symm) (hoff9 _ (.tail _ (.head _)) p)
      have tq : ∀ p ∈ bl ++ own, p.1 ≠ qu := fun p hp => (List.mem_append.mp hp).elim (fun h => (a10 _ (i4.mem_addr p h).1).symm) (hoff9 _ (.tail _ (.tail _ (.head _))) p)
      have tb : ∀ p ∈ bl ++ own, p.1 ≠ be := fun p hp => (List.mem_append.mp hp).elim (fun h => (a9 _ (i4.mem_addr p h).1).symm) (hoff9 _ (.tail _ (.tail _ (.tail _ (.head _)))) p)
      have ob : ∀ b ∈ bs, ∀ p ∈ own, p.1 ≠ b := fun b hb p hp => by
        obtain ⟨o, ho⟩ := i4.addr b hb
        exact hoff9 (b, o) (.tail _ (.tail _ (.tail _ (.tail _ (List.mem_append_left _ ho))))) p hp
      walk_at "my steps"
      refine ⟨for_any (by assumption) rfl rfl ?_⟩
      walk_at "my steps"
      rename News _ _ _ _ => N10
      rename Fr _ _ _ _ => F10
      have hbo := hio.befs
      have hbl := iniAll_len rows ls (fun r hr => (hfit.row r hr).1) i
      refine ⟨for_list hh F10 N10 (isList_of (F10.keep _ _ hr2)) (Nat.ne_of_lt (Nat.lt_of_lt_of_le (Heap.lt_size hr2) F10.above)) (IniJ2 sd af lo va le be qu bs (bs.map Value.ref).length own row (iniAll rows ls i) i tn) _ _ (by walk_at "my ps") sub_self
        ⟨rfl, _, _, _, _, _, _, bl, rfl, i1, by rw [← hr4]; exact IntsAre.append i2 (.cons _ _ .nil), i3, i4⟩ ?turn2 ?done2⟩
      case turn2 =>
        rintro j v ps led u h11 tk11 own2 TQ hTQ hv ⟨rfl, vv', nv', lv', nl', qv', nq', bl', rfl, k1, k2, k3, k4⟩ F11 N11 hoff11
        simp only [List.cons_append, List.append_assoc] at N11
        dsimp only at k1 k2 k3 k4
        obtain ⟨m, tm, rfl, hm⟩ := hr3.at j v (by simpa using hv)
        have hj : j < row.length := (List.getElem?_eq_some_iff.mp hm).1
        have hstep : (row.take (j + 1)).foldl (putBef i) (iniAll rows ls i).befs = putBef i ((row.take j).foldl (putBef i) (iniAll rows ls i).befs) m := by
          rw [List.take_add_one, hm]; simp
        have hra2 : ∀ q ∈ (va, listOf (List.toArray vv') nv') :: (le, listOf (List.toArray lv') nl') :: (qu, listOf (List.toArray qv') nq') :: (be, listOf (List.toArray (bs.map Value.ref)) (bs.map Value.ref).length) :: (bl' ++ own), q.1 ≠ ra := fun q hq e => by
          have h1 := (N11 q (by
            simp only [List.mem_cons, List.mem_append] at hq ⊢
            rcases hq with h | h | h | h | h | h <;> simp [h])).2.2
          rw [e, hr2] at h1; cases h1
        have hoff12 := fun q hq => hoff11 q hq (hra2 q hq)
        have ob2 : ∀ b ∈ bs, ∀ p ∈ own ++ own2, p.1 ≠ b := fun b hb p hp => by
          rcases List.mem_append.mp hp with hp | hp
          · exact ob b hb p hp
          · obtain ⟨o, ho⟩ := k4.addr b hb
            exact hoff12 (b, o) (.tail _ (.tail _ (.tail _ (.tail _ (List.mem_append_left _ ho))))) p hp
        have fin : ∀ (h7 : Heap) (tk7 : Nat) (m7 : Str → Option Value) (bl7 : List (Addr × Obj)), Fr g L h7 m7 → News g L h7 ((va, listOf (List.toArray vv') nv') :: (le, listOf (List.toArray lv') nl') :: (qu, listOf (List.toArray qv') nq') :: (be, listOf (List.toArray (bs.map Value.ref)) (bs.map Value.ref).length) :: (bl7 ++ (own ++ own2))) →
            (∀ p ∈ nv "n" (.int (i : Int) tn) :: solvePs sd af lo va le be qu, m7 p.1 = some p.2) → BLed bs (putBef i ((row.take j).foldl (putBef i) (iniAll rows ls i).befs) m) bl7 →
            Hold (TEnd g L (.type "list_iterator") own2 (IniJ2 sd af lo va le be qu bs (bs.map Value.ref).length own row (iniAll rows ls i) i tn (j + 1)) { s with heap := h11, toks := tk11 } { s with heap := h7, toks := tk7 }) :=
          fun h7 tk7 m7 bl7 F7 N7 hp7 hB7 => TEnd.of F7 N7 ⟨rfl, vv', nv', lv', nl', qv', nq', bl7, rfl, k1, k2, k3, by rw [hstep]; exact hB7⟩ hp7
            (fun p hp => by
              simp only [List.mem_cons, List.mem_append] at hp ⊢
              rcases hp with h | h | h | h | h | h <;> simp [h])
            (fun p hp => by simp [hp])
            (fun p hp => by
              simp only [List.mem_cons, List.mem_append] at hp
              rcases hp with h | h | h | h | h | h
              · rw [h]; simp
              · rw [h]; simp
              · rw [h]; simp
              · rw [h]; simp
              · rw [(hB7.mem_addr p h).2]; simp
              · rw [hcl9 p h]; simp)
        rcases (hfit.row row (List.mem_of_getElem? hrow)).2 m (List.mem_of_getElem? hm) with rfl | hm0
        · walk_at "my steps"
          exact fin _ _ _ _ (by assumption) (by assumption) (by walk_at "my ps") (by simpa [putBef] using k4)
        · obtain ⟨mm, rfl⟩ : ∃ mm : Nat, m = mm := ⟨m.toNat, by omega⟩
          have hbo2 := foldl_putBef_ok (n := (i : Int)) (by omega) (row.take j) hbo
          have hbsl := k4.len
          rw [hbo2.1] at hbsl
          obtain ⟨a, ha⟩ : ∃ a, bs[mm]? = some a := ⟨bs[mm]'(by omega), by simp⟩
          have haM : a ∈ bs := List.mem_of_getElem? ha
          have har : (bs.map Value.ref)[mm]? = some (.ref a) := by simp [ha]
          obtain ⟨pv, pn, bl2, hpl, hU, hB2⟩ := k4.put (x := (i : Int)) (t := tn) a11 mm a ha (ob2 a haM)
          have hpz : pv.length ≤ 2 * i + 2 := by
            rw [hpl]
            refine Nat.le_trans (lenLe_getD (foldl_putBef_len (n := (i : Int)) (row.take j) hbl) mm) ?_
            simp; omega
          have b1 := a7 a haM
          have b2 := a8 a haM
          have b3 := a9 a haM
          have b4 := a10 a haM
          have ham := upd_mem hU
          walk_at "my steps"
          · exact fin _ _ _ _ (by assumption) (by assumption) (by walk_at "my ps") (by rw [putBef, if_neg (by omega), Int.toNat_natCast]; exact hB2)
          · exfalso; omega
      case done2 =>
        rintro ps led u h11 tk11 ⟨rfl, vv', nv', lv', nl', qv', nq', bl', rfl, k1, k2, k3, k4⟩ F11 N11
        dsimp only at k1 k2 k3 k4
        rw [List.size_toArray, hr4, List.take_length] at k4
        have hvv' := k1.length
        have hqv' := k3.length
        rw [hio.vals] at hvv'
        have hivv' : i < vv'.length := by omega
        have tv' : ∀ p ∈ bl' ++ own, p.1 ≠ va := fun p hp => (List.mem_append.mp hp).elim (fun h => (a7 _ (k4.mem_addr p h).1).symm) (hoff9 _ (.head _) p)
        have tq' : ∀ p ∈ bl' ++ own, p.1 ≠ qu := fun p hp => (List.mem_append.mp hp).elim (fun h => (a10 _ (k4.mem_addr p h).1).symm) (hoff9 _ (.tail _ (.tail _ (.head _))) p)
        have tb' : ∀ p ∈ bl' ++ own, p.1 ≠ be := fun p hp => (List.mem_append.mp hp).elim (fun h => (a9 _ (k4.mem_addr p h).1).symm) (hoff9 _ (.tail _ (.tail _ (.tail _ (.head _)))) p)
        have hrd : rows.getD i [] = row := by simp [List.getD_eq_getElem?_getD, hrow]
        have hld : ls.getD i false = bb := by simp [List.getD_eq_getElem?_getD, hbb]
        have finI : ∀ (h7 : Heap) (tk7 : Nat) (m7 : Str → Option Value) (vv7 : List Value) (qv7 : List Value) (nq7 : Nat), Fr g L h7 m7 → News g L h7 ((va, listOf (List.toArray vv7) nv') :: (le, listOf (List.toArray lv') nl') :: (qu, listOf (List.toArray qv7) nq7) :: (be, listOf (List.toArray (bs.map Value.ref)) (bs.map Value.ref).length) :: (bl' ++ own)) →
            (∀ p ∈ solvePs sd af lo va le be qu, m7 p.1 = some p.2) → IntsAre vv7 (iniAll rows ls (i + 1)).vals → IntsAre qv7 (iniAll rows ls (i + 1)).q →
            Hold (TEnd g L (.type "range_iterator") own (IniJ sd af lo va le be qu bs (bs.map Value.ref).length rows ls (i + 1)) { s with heap := h9, toks := tk9 } { s with heap := h7, toks := tk7 }) :=
          fun h7 tk7 m7 vv7 qv7 nq7 F7 N7 hp7 h1 h2 => TEnd.of F7 N7 ⟨rfl, vv7, nv', lv', nl', qv7, nq7, bl', rfl, h1, by rw [iniAll_succ]; simp only [iniStep]; rw [hrd]; exact k2, h2, by rw [iniAll_succ]; simp only [iniStep]; rw [hrd]; exact k4⟩ hp7
            (fun p hp => by
              simp only [List.mem_cons, List.mem_append, List.not_mem_nil, or_false] at hp ⊢
              rcases hp with h | h | h | h | h <;> simp [h])
            (fun p hp => by simp [hp])
            (fun p hp => by
              simp only [List.mem_cons, List.mem_append, List.not_mem_nil, or_false] at hp
              rcases hp with h | h | h | h | h
              · rw [h]; simp
              · rw [h]; simp
              · rw [h]; simp
              · rw [h]; simp
              · rw [(k4.mem_addr p h).2]; simp)
        walk_at "my steps"
        · rename _ = true => hb2
          subst hb2
          refine finI _ _ _ _ _ _ (by assumption) (by assumption) (by walk_at "my ps") ?_ ?_
          · rw [iniAll_succ]; simp only [iniStep]; rw [if_pos hld]; exact ints_set k1 _ _ _
          · rw [iniAll_succ]; simp only [iniStep]; rw [if_pos hld]; exact IntsAre.append k3 (.cons _ _ .nil)
        · rename _ = false => hb2
          subst hb2
          refine finI _ _ _ _ _ _ (by assumption) (by assumption) (by walk_at "my ps") ?_ ?_
          · rw [iniAll_succ]; simp only [iniStep]; rw [if_neg (by rw [hld]; simp)]; exact k1
          · rw [iniAll_succ]; simp only [iniStep]; rw [if_neg (by rw [hld]; simp)]; exact k3
    case done =>
      rintro ps led u h9 tk9 ⟨rfl, vv, nv0, lv, nl, qv, nq, bl, rfl, i1, i2, i3, i4⟩ F9 N9
      rw [hrl] at i1 i2 i3 i4
      walk_at "my steps"
      have hrun := iniAll_run rows ls
      have hbefs := (iniAll_ok rows ls rows.length (Nat.le_refl _)).befs
      refine ⟨loop_while (by assumption) (by assumption) (RunJ sd af lo va le be qu bs (bs.map Value.ref).length ss (iniAll rows ls rows.length).befs (iniAll rows ls rows.length).st rows.length) rows.length _ _ (by walk_at "my ps") sub_self ⟨0, _, rfl, rfl, ⟨vv, nv0, lv, nl, qv, nq, bl, rfl, i1, i2, i3, i4⟩, fun _ h => absurd h (Nat.not_lt_zero _), Nat.zero_le _⟩ ?_⟩
      rintro n ps led u h10 tk10 TQ hTQ ⟨a, ta, rfl, rfl, ⟨vv, nv0, lv, nl, qv, nq, bl, rfl, i1, i2, i3, i4⟩, hall, hale⟩ F10 N10
      dsimp only at i1 i2 i3 i4
      obtain ⟨a1, a2, a3, a4, a5, a6, a7, a8, a9, a10, a11⟩ := id hap
      have hok := runS_ok (ss := ss) hrun hbefs a hall
      have hqN := hok.len
      have hqv := i3.length
      by_cases hlt : a < qv.length
      · have hbl4 := i4.len
        rw [hbefs.1] at hbl4
        obtain ⟨v, hv⟩ : ∃ v, qv[a]? = some v := ⟨qv[a], by simp [hlt]⟩
        obtain ⟨m, tm, rfl, hm⟩ := i3.at a v hv
        have hmq := hok.q m (List.mem_of_getElem? hm)
        obtain ⟨mm, rfl⟩ : ∃ mm : Nat, m = mm := ⟨m.toNat, by omega⟩
        obtain ⟨b, hb⟩ : ∃ b, bs[mm]? = some b := ⟨bs[mm]'(by omega), by simp⟩
        have hbM : b ∈ bs := List.mem_of_getElem? hb
        have hbr : (bs.map Value.ref)[mm]? = some (.ref b) := by simp [hb]
        obtain ⟨rv, rn, rowb, hrb, hrl2, hri⟩ := i4.at mm b hb
        have hgd : (iniAll rows ls rows.length).befs.getD mm [] = rowb := by simp [List.getD_eq_getElem?_getD, hrb]
        have hInN : InN rows.length rowb := by rw [← hgd]; exact getD_ok hbefs mm
        have hqd : (runS ss (iniAll rows ls rows.length).befs (iniAll rows ls rows.length).st a).q.getD a 0 = (mm : Int) := by simp [List.getD_eq_getElem?_getD, hm]
        have hrs : runS ss (iniAll rows ls rows.length).befs (iniAll rows ls rows.length).st (a + 1) = rowb.foldl (relax ss mm) (runS ss (iniAll rows ls rows.length).befs (iniAll rows ls rows.length).st a) := by
          rw [runS, procM, hqd, Int.toNat_natCast, hgd]
        replace i1 : Hold _ := ⟨i1⟩
        replace i2 : Hold _ := ⟨i2⟩
        replace i3 : Hold _ := ⟨i3⟩
        walk_at "my steps"
        refine ⟨for_any (by assumption) rfl rfl ?_⟩
        walk_at "my steps"
        rename News _ _ _ _ => N11
        rename Fr _ _ _ _ => F11
        have hst := hok
        generalize hstE : runS ss (iniAll rows ls rows.length).befs (iniAll rows ls rows.length).st a = st at *
        have hbL : b ≠ L := (N11 _ (.tail _ (.tail _ (.tail _ (.tail _ (List.mem_append_left _ hrl2)))))).2.1
        refine ⟨for_list hh F11 N11 (isList_of (N11 _ (.tail _ (.tail _ (.tail _ (.tail _ (List.mem_append_left _ hrl2)))))).1) hbL (RunJ2 sd af lo va le be qu bs (bs.map Value.ref).length ss (iniAll rows ls rows.length).befs st rowb mm tm ((a : Int) + 1) _) _ _ (by walk_at "my ps") sub_self
          ⟨rfl, vv, nv0, lv, nl, qv, nq, bl, rfl, i1.it, i2.it, i3.it, i4⟩ ?turn3 ?done3⟩
        case turn3 =>
          rintro j v ps led u h12 tk12 own TQ hTQ hv3 ⟨rfl, vv', nv', lv', nl', qv', nq', bl', rfl, k1, k2, k3, k4⟩ F12 N12 hoff12
          dsimp only at k1 k2 k3 k4
          have hInJ : InN rows.length (rowb.take j) := fun x hx => hInN x (List.mem_of_mem_take hx)
          obtain ⟨hokj, hmj⟩ := foldl_relax_ok (ss := ss) (rowb.take j) hst hmq.2.2 hInJ
          generalize hsj : (rowb.take j).foldl (relax ss mm) st = sj at *
          obtain ⟨n, tn, rfl, hn⟩ := hri.at j v (by simpa using hv3)
          have hstep : (rowb.take (j + 1)).foldl (relax ss mm) st = relax ss mm sj n := by
            rw [List.take_add_one, hn]; simp [hsj]
          have hnN := hInN n (List.mem_of_getElem? hn)
          obtain ⟨nn, rfl⟩ : ∃ nn : Nat, n = nn := ⟨n.toNat, by omega⟩
          have z1 := k1.length
          have z2 := k2.length
          have z3 := k3.length
          have z4 := g2.length
          rw [hokj.vals] at z1
          rw [hokj.lefts] at z2
          rw [hfit.ss] at z4
          have z5 := hokj.len
          have hnv : nn < vv'.length := by omega
          have hnl : nn < lv'.length := by omega
          obtain ⟨v1, e1⟩ : ∃ v, vv'[nn]? = some v := ⟨vv'[nn], by simp [hnv]⟩
          obtain ⟨x1, t1, rfl, y1⟩ := k1.at nn v1 e1
          obtain ⟨v2, e2⟩ : ∃ v, lv'[nn]? = some v := ⟨lv'[nn], by simp [hnl]⟩
          obtain ⟨x2, t2, rfl, y2⟩ := k2.at nn v2 e2
          obtain ⟨v3, e3⟩ : ∃ v, sv[nn]? = some v := ⟨sv[nn]'(by omega), by simp⟩
          obtain ⟨x3, t3, rfl, y3⟩ := g2.at nn v3 e3
          obtain ⟨v4, e4⟩ : ∃ v, vv'[mm]? = some v := ⟨vv'[mm]'(by omega), by simp⟩
          obtain ⟨x4, t4, rfl, y4⟩ := k1.at mm v4 e4
          have y1' : sj.vals.getD nn 0 = x1 := by simp [List.getD_eq_getElem?_getD, y1]
          have y2' : sj.lefts.getD nn 0 = x2 := by simp [List.getD_eq_getElem?_getD, y2]
          have y3' : ss.getD nn 0 = x3 := by simp [List.getD_eq_getElem?_getD, y3]
          have y4' : sj.vals.getD mm 0 = x4 := by simp [List.getD_eq_getElem?_getD, y4]
          have hpos : x1 = -1 ∧ (x3 = 0 ∨ x2 - 1 = 0) → relax ss mm sj nn = ⟨sj.vals.set nn (x4 + 1), sj.lefts.set nn (x2 - 1), sj.q ++ [(nn : Int)]⟩ := fun h => by
            simp only [relax, Int.toNat_natCast, y1', y2', y3', y4']; rw [if_pos h]
          have hneg : ¬ (x1 = -1 ∧ (x3 = 0 ∨ x2 - 1 = 0)) → relax ss mm sj nn = ⟨sj.vals, sj.lefts.set nn (x2 - 1), sj.q⟩ := fun h => by
            simp only [relax, Int.toNat_natCast, y1', y2', y3', y4']; rw [if_neg h]
          have fin3 : ∀ (ta' : Tok) (h7 : Heap) (tk7 : Nat) (m7 : Str → Option Value) (vv7 lv7 qv7 : List Value) (nv7 nl7 nq7 : Nat) (r : St), relax ss mm sj nn = r → Fr g L h7 m7 → News g L h7 ((va, listOf (List.toArray vv7) nv7) :: (le, listOf (List.toArray lv7) nl7) :: (qu, listOf (List.toArray qv7) nq7) :: (be, listOf (List.toArray (bs.map Value.ref)) (bs.map Value.ref).length) :: (bl' ++ own)) →
              (∀ p ∈ nv "m" (.int (mm : Int) tm) :: nv "at" (.int ((a : Int) + 1) ta') :: solvePs sd af lo va le be qu, m7 p.1 = some p.2) → IntsAre vv7 r.vals → IntsAre lv7 r.lefts → IntsAre qv7 r.q →
              Hold (TEnd g L (.type "list_iterator") own (RunJ2 sd af lo va le be qu bs (bs.map Value.ref).length ss (iniAll rows ls rows.length).befs st rowb mm tm ((a : Int) + 1) ta' (j + 1)) { s with heap := h12, toks := tk12 } { s with heap := h7, toks := tk7 }) :=
            fun ta' h7 tk7 m7 vv7 lv7 qv7 nv7 nl7 nq7 r er F7 N7 hp7 h1 h2 h3 => TEnd.of F7 N7 ⟨rfl, vv7, nv7, lv7, nl7, qv7, nq7, bl', rfl, by rw [hstep, er]; exact h1, by rw [hstep, er]; exact h2, by rw [hstep, er]; exact h3, k4⟩ hp7
              (fun p hp => by
                simp only [List.mem_cons, List.mem_append, List.not_mem_nil, or_false] at hp ⊢
                rcases hp with h | h | h | h | h <;> simp [h])
              (fun p hp => by simp [hp])
              (fun p hp => by
                simp only [List.mem_cons, List.mem_append, List.not_mem_nil, or_false] at hp
                rcases hp with h | h | h | h | h
                · rw [h]; simp
                · rw [h]; simp
                · rw [h]; simp
                · rw [h]; simp
                · rw [(k4.mem_addr p h).2]; simp)
          have tv : ∀ p ∈ bl' ++ own, p.1 ≠ va := fun p hp => (List.mem_append.mp hp).elim (fun h => (a7 _ (k4.mem_addr p h).1).symm) (hoff12 _ (.head _) (a7 b hbM) p)
          have tl : ∀ p ∈ bl' ++ own, p.1 ≠ le := fun p hp => (List.mem_append.mp hp).elim (fun h => (a8 _ (k4.mem_addr p h).1).symm) (hoff12 _ (.tail _ (.head _)) (a8 b hbM) p)
          have tq : ∀ p ∈ bl' ++ own, p.1 ≠ qu := fun p hp => (List.mem_append.mp hp).elim (fun h => (a10 _ (k4.mem_addr p h).1).symm) (hoff12 _ (.tail _ (.tail _ (.head _))) (a10 b hbM) p)
          have tb : ∀ p ∈ bl' ++ own, p.1 ≠ be := fun p hp => (List.mem_append.mp hp).elim (fun h => (a9 _ (k4.mem_addr p h).1).symm) (hoff12 _ (.tail _ (.tail _ (.tail _ (.head _)))) (a9 b hbM) p)
          simp only [List.cons_append, List.append_nil] at N12
          replace k1 : Hold _ := ⟨k1⟩
          replace k2 : Hold _ := ⟨k2⟩
          replace k3 : Hold _ := ⟨k3⟩
          have g2' : Hold (IntsAre sv ss) := ⟨g2⟩
          clear g2
          clear i1 i2 i3
          walk_at "my steps"
          · exact fin3 _ _ _ _ _ _ _ _ _ _ _ (hpos (by omega)) (by assumption) (by assumption) (by walk_at "my ps") (ints_set k1.it _ _ _) (ints_set k2.it _ _ _) (IntsAre.append k3.it (.cons _ _ .nil))
          · exact fin3 _ _ _ _ _ _ _ _ _ _ _ (hpos (by omega)) (by assumption) (by assumption) (by walk_at "my ps") (ints_set k1.it _ _ _) (ints_set k2.it _ _ _) (IntsAre.append k3.it (.cons _ _ .nil))
          · exact fin3 _ _ _ _ _ _ _ _ _ _ _ (hneg (by omega)) (by assumption) (by assumption) (by walk_at "my ps") k1.it (ints_set k2.it _ _ _) k3.it
          · exact fin3 _ _ _ _ _ _ _ _ _ _ _ (hneg (by omega)) (by assumption) (by assumption) (by walk_at "my ps") k1.it (ints_set k2.it _ _ _) k3.it
        case done3 =>
          rintro ps led u h12 tk12 ⟨rfl, vv', nv', lv', nl', qv', nq', bl', rfl, k1, k2, k3, k4⟩ F12 N12
          dsimp only at k1 k2 k3 k4
          rw [List.size_toArray, hri.length, List.take_length, ← hrs] at k1 k2 k3
          have hmono := foldl_relax_mono (ss := ss) (m := (mm : Int)) rowb (st := st)
          rw [← hrs] at hmono
          walk_at "my steps"
          exact WEnd.of (by assumption) (by assumption) ⟨a + 1, _, rfl, rfl, ⟨vv', nv', lv', nl', qv', nq', bl', rfl, k1, k2, k3, k4⟩, fun a' ha' => (Nat.lt_succ_iff_lt_or_eq.mp ha').elim (hall a') (fun e => by rw [e, hstE]; omega), by omega⟩ (by omega) (by walk_at "my ps") sub_self
      · walk_at "my steps"
        exact ⟨[(va, listOf (List.toArray vv) nv0)], by walk_at "my sub", va, vv, nv0, _, rfl, rfl, i1, a, by omega, hall, rfl⟩
end Mine
namespace Mine
theorem flatten_single {α : Type} {x : α} {k : Nat} : (List.replicate k [x]).flatten = List.replicate k x := by
  induction k with
  | zero => rfl
  | succ k ih => rw [List.replicate_succ, List.flatten_cons, ih, List.replicate_succ]; rfl
theorem rep_led {prog : Program} {w : World} {A : Around} {E : Value → Shared → Prop} {s : Shared} {h₀ : Heap} {L : Addr} {m : Str → Option Value} {news : List (Addr × Obj)} {l : Addr} {v : Value} {n k : Nat} {u : Tok} {Q : Value → Shared → Prop}
    (F : Fr h₀ L s.heap m) (N : News h₀ L s.heap news) (hm : (l, listOf #[v] n) ∈ news) (hk : k ≤ 256)
    (h : ∀ D h', Fr h₀ L h' m → News h₀ L h' ((D, listOf (List.toArray (List.replicate k v)) 0) :: news) → (∀ p ∈ news, p.1 < D) → Q (.ref D) { s with heap := h' }) : wpAny (model prog w) A (binaryOp .Mult (.ref l) (.int (k : Int) u)) Q E s :=
  KMa.mul (vs := [v]) F N (isList_of (N _ hm).1) (by omega) (by omega) (by simpa using hk) (by rw [Int.toNat_natCast]; exact flatten_single) h
theorem ints_rep0 {x : Int} {t : Tok} : ∀ {k : Nat}, IntsAre (List.replicate k (Value.int x t)) (List.replicate k x)
  | 0 => .nil
  | _ + 1 => .cons x t ints_rep0
theorem BLed.rows {g : Heap} : ∀ {as : List Addr} {xss : List (List Int)} {l : List (Addr × Obj)}, BLed as xss l → (∀ p ∈ l, g.get? p.1 = some p.2) → Rows g (as.map Value.ref) xss
  | _, _, _, .nil, _ => .nil
  | _, _, _, .cons h r, hg => .cons (hg _ (.head _)) h (r.rows fun p hp => hg p (.tail _ hp))
end Mine
local macro_rules | `(tactic| walk_at "binaryOp Mult ref int") => `(tactic| (k_here; (with_reducible show wpAny _ _ (binaryOp Operator.Mult (Value.ref _) (Value.int (Nat.cast _) _)) _ _ _); k_dflt (refine Mine.rep_led (by assumption) (by assumption) (by walk_at "my in") (by omega) ?_); intro D' h' F' N' l1'))
namespace Mine
structure MovesR (af lo : Addr) (rows : List (List Int)) (ls : List Bool) (g : Heap) : Prop where
  ex : ∃ rs n2 n3, g.get? af = some (listOf (List.toArray rs) n2) ∧ Rows g rs rows ∧ g.get? lo = some (listOf (List.toArray (ls.map Value.bool)) n3)
theorem MovesR.mono {af lo : Addr} {rows : List (List Int)} {ls : List Bool} {g g' : Heap} (h : MovesR af lo rows ls g) (k : g.StaysIn g') : MovesR af lo rows ls g' :=
  let ⟨rs, n2, n3, c, d, e⟩ := h.ex
  .mk ⟨rs, n2, n3, k _ _ c, d.mono k, k _ _ e⟩

abbrev tupOf (p : Int) (t : Tok) (k : Int) (u : Tok) (n : Nat) : Obj := { cls := .type "tuple", data := .seq #[.int p t, .int k u] n }
/-- pairs of ints side by side in the ledger -/
inductive TLed : List Addr → List (Int × Nat) → List (Addr × Obj) → Prop
  | nil : TLed [] [] []
  | cons {a : Addr} {p : Int} {t : Tok} {kv : Int} {k : Nat} {u : Tok} {n : Nat} {as : List Addr} {xs : List (Int × Nat)} {l : List (Addr × Obj)} : kv = (k : Int) → TLed as xs l → TLed (a :: as) ((p, k) :: xs) ((a, tupOf p t kv u n) :: l)
theorem TLed.at : ∀ {as : List Addr} {xs : List (Int × Nat)} {l : List (Addr × Obj)}, TLed as xs l → ∀ (i : Nat) (p : Int) (k : Nat), xs[i]? = some (p, k) → ∃ a t u n, as[i]? = some a ∧ (a, tupOf p t (k : Int) u n) ∈ l
  | _, _, _, .nil, i, p, k, h => by simp at h
  | _, _, _, .cons h r, 0, p, k, e => by cases e; subst h; exact ⟨_, _, _, _, rfl, .head _⟩
  | _, _, _, .cons h r, j + 1, p, k, e => by
    obtain ⟨a, t, u, n, h1, h2⟩ := r.at j p k (by simpa using e)
    exact ⟨a, t, u, n, by simpa using h1, .tail _ h2⟩
theorem TLed.snoc {a : Addr} {p : Int} {t : Tok} {kv : Int} {k : Nat} {u : Tok} {n : Nat} (hk : kv = (k : Int)) : ∀ {as : List Addr} {xs : List (Int × Nat)} {l : List (Addr × Obj)}, TLed as xs l → TLed (as ++ [a]) (xs ++ [(p, k)]) (l ++ [(a, tupOf p t kv u n)])
  | _, _, _, .nil => .cons hk .nil
  | _, _, _, .cons h r => .cons h (r.snoc hk)
theorem TLed.len : ∀ {as : List Addr} {xs : List (Int × Nat)} {l : List (Addr × Obj)}, TLed as xs l → as.length = xs.length
  | _, _, _, .nil => rfl
  | _, _, _, .cons _ r => by simp [r.len]
theorem TLed.cls : ∀ {as : List Addr} {xs : List (Int × Nat)} {l : List (Addr × Obj)}, TLed as xs l → ∀ q ∈ l, q.2.cls = .type "tuple"
  | _, _, _, .nil, _, h => nomatch h
  | _, _, _, .cons _ r, q, h => by
    rcases List.mem_cons.mp h with rfl | h
    · rfl
    · exact r.cls q h
abbrev gamePs (af no ch : Addr) (D : Nat) (td : Tok) : List (Str × Value) := [nv "nodes" (.ref no), nv "children" (.ref ch), nv "after" (.ref af), nv "depth" (.int (D : Int) td)]
def GameJ (rows : List (List Int)) (af : Addr) (D : Nat) (td : Tok) (root : Int) (c : Addr) (oc : Obj) (no ch : Addr) (n : Nat) (ps : List (Str × Value)) (led : List (Addr × Obj)) : Prop :=
  ∃ (a : Nat) (t : Tok) (as bs : List Addr) (tl bl : List (Addr × Obj)) (n1 n2 : Nat), n = 31 - a ∧ ps = nv "at" (.int (a : Int) t) :: gamePs af no ch D td ∧
    led = (no, listOf (List.toArray (as.map Value.ref)) n1) :: (ch, listOf (List.toArray (bs.map Value.ref)) n2) :: (c, oc) :: (tl ++ bl) ∧
    TLed as (gRun D (afterF rows) root a).nodes tl ∧ BLed bs (gRun D (afterF rows) root a).kids bl ∧ (∀ p ∈ tl ++ bl, p.1 ≠ no) ∧ (∀ p ∈ tl ++ bl, p.1 ≠ ch) ∧
    (∀ a', a' < a → a' < (gRun D (afterF rows) root a').nodes.length) ∧ a ≤ (gRun D (afterF rows) root a).nodes.length
def GameJ2 (af : Addr) (D : Nat) (td : Tok) (c : Addr) (oc : Obj) (no ch r : Addr) (n2 : Nat) (bs : List Addr) (bl : List (Addr × Obj)) (row : List Int) (nodes : List (Int × Nat)) (k : Nat) (tk : Tok) (kv : Int) (a : Int) (ta : Tok) (j : Nat) (ps : List (Str × Value)) (led : List (Addr × Obj)) : Prop :=
  ∃ (as : List Addr) (tl : List (Addr × Obj)) (n1 n3 : Nat) (rv : List Value), ps = nv "ply" (.int kv tk) :: nv "at" (.int a ta) :: gamePs af no ch D td ∧
    led = (r, listOf (List.toArray rv) n3) :: (no, listOf (List.toArray (as.map Value.ref)) n1) :: (ch, listOf (List.toArray (bs.map Value.ref ++ [Value.ref r])) n2) :: (c, oc) :: (tl ++ bl) ∧
    TLed as (nodes ++ (row.take j).map fun q => (q, k + 1)) tl ∧ IntsAre rv ((List.range j).map fun i => ((nodes.length + i : Nat) : Int)) ∧ (∀ p ∈ tl ++ bl, p.1 ≠ no) ∧ (∀ p ∈ tl ++ bl, p.1 ≠ ch) ∧ (∀ p ∈ tl ++ bl, p.1 ≠ r)
set_option maxHeartbeats 4000000 in
theorem game_spec {prog : Program} (w : World) (af lo : Addr) (rows : List (List Int)) (ls : List Bool) (root : Int) (tr : Tok) (D : Nat) (td : Tok) (hN : rows.length = 6) (hls : ls.length = 6)
    (hrow : ∀ r ∈ rows, r.length ≤ 2 ∧ ∀ m ∈ r, m = -1 ∨ (0 ≤ m ∧ m < 6)) (hroot : 0 ≤ root ∧ root < 6) (hD : D ≤ 4) :
    Spc prog w (Mine.hd.heap_1 w.params) 223 [.ref af, .ref lo, .int root tr, .int (D : Int) td] [] 4 12 (MovesR af lo rows ls) []
     (fun _ r nw => ∃ game pa t n objs nodes kids cks drs, r = .ref game ∧ nw = (pa, pathOf [] 0 t n) :: objs ∧ (∀ q ∈ objs, q.1 ≠ pa) ∧ (∀ g' : Heap, (∀ q ∈ objs, g'.get? q.1 = some q.2) → GameR w game pa kids cks drs g') ∧
       TreeOk (afterF rows) (lostF ls) D nodes kids cks drs ∧ nodes[0]? = some (root, 0)) := by
  refine' Spc.introC (dp := 3) (un := 9) (binds := [nv "after" (.ref af), nv "lost" (.ref lo), nv "root" (.int root tr), nv "depth" (.int (D : Int) td)]) ?k6 ?k7 (fun s => BindsTo.of_eq ?kb) ?kl ?nd ?_ ?c1 ?c2 ?c3
  case k6 => k_is
  case k7 => k_is
  case kb => exact rfl
  case kl => intro n x hx; simp only [List.mem_cons, List.not_mem_nil, or_false] at hx; rcases hx with rfl | rfl | rfl | rfl <;> first | exact .inl rfl | exact .inr ⟨rfl, rfl⟩
  case nd => decide
  case c1 => exact rfl
  case c2 => exact rfl
  case c3 => exact rfl
  intro A g L h₁ s tk pg loose mg mb cells QF hQF hh hd hu F N Y hlt X T hR
  obtain ⟨rs, n2, n3, g3, g4, g5⟩ := hR.ex
  have hrl := g4.length
  obtain ⟨oc, rfl, hoc⟩ := CellsAre.one Y
  have hoc' : oc.data = .cell (some (.ref lo)) := hoc
  clear hoc Y
  simp only [List.cons_append, List.nil_append, List.append_nil] at N
  have F0 : Fr g L h₁ (fun y => if y = "depth" then some (.int (D : Int) td) else if y = "root" then some (.int root tr) else if y = "after" then some (.ref af) else none) := F
  clear F
  walk_at "my steps"
  rename Fr _ _ _ _ => F1
  rename News _ _ _ _ => N1
  rename_i tkA tt hx0 l1 no hx1 l2 ch hx2 l3 tz hx3 l4 hx5 hx6 hx7 hx8
  have hPr : ∀ p, (p = -1 ∨ (0 ≤ p ∧ p < 6)) → p ≠ -1 → (afterF rows p).length ≤ 2 ∧ ∀ q ∈ afterF rows p, (q = -1 ∨ (0 ≤ q ∧ q < 6)) := by
    intro p hp hne
    obtain ⟨row, hrw⟩ : ∃ row, rows[p.toNat]? = some row := ⟨rows[p.toNat]'(by omega), by simp⟩
    have : afterF rows p = row := by simp [afterF, List.getD_eq_getElem?_getD, hrw]
    rw [this]
    exact hrow row (List.mem_of_getElem? hrw)
  have hnc : no ≠ ch := Nat.ne_of_lt l3.1
  have hcn : (L + 1 : Nat) ≠ no := Nat.ne_of_lt l2.2
  have hcc : (L + 1 : Nat) ≠ ch := Nat.ne_of_lt l3.2.2
  refine ⟨loop_while F1 N1 (GameJ rows af D td root (L + 1) oc no ch) 31 _ _ (by walk_at "my ps") (by walk_at "my sub") ⟨0, _, [tt], [], [(tt, _)], [], 0, 0, rfl, rfl, rfl, .cons rfl .nil, .nil, ?_, ?_, fun _ h => absurd h (Nat.not_lt_zero _), Nat.zero_le _⟩ ?_⟩
  · intro p hp; simp only [List.append_nil, List.mem_singleton] at hp; subst hp; exact Nat.ne_of_lt l2.1
  · intro p hp; simp only [List.append_nil, List.mem_singleton] at hp; subst hp; exact Nat.ne_of_lt l3.2.1
  rintro n ps led u h10 tk10 TQ hTQ ⟨a, ta, as, bs, tl, bl, n1, n2, rfl, rfl, rfl, hT, hB, hno, hch, hall, hale⟩ F10 N10
  obtain ⟨hok, hok0⟩ := gRun_ok (D := D) (lost := lostF ls) (P := fun p => p = -1 ∨ (0 ≤ p ∧ p < 6)) (root := root) (.inr hroot) hPr a hall
  have hlen := gRun_len hD hok
  have hTl := hT.len
  have hTl' : (as.map Value.ref).length = (gRun D (afterF rows) root a).nodes.length := by simp [hTl]
  by_cases hlt : a < (gRun D (afterF rows) root a).nodes.length
  · obtain ⟨⟨p, k⟩, hx⟩ : ∃ x, (gRun D (afterF rows) root a).nodes[a]? = some x := ⟨_, List.getElem?_eq_getElem hlt⟩
    have hxd : (gRun D (afterF rows) root a).nodes.getD a (-1, 0) = (p, k) := by rw [List.getD_eq_getElem?_getD, hx]; rfl
    obtain ⟨hkD, hP⟩ := hok.ply (p, k) (List.mem_of_getElem? hx)
    obtain ⟨x, tx, ux, nx, hxa, hxm⟩ := hT.at a p k hx
    have hxr : (as.map Value.ref)[a]? = some (.ref x) := by simp [hxa]
    have hsucc : gRun D (afterF rows) root (a + 1) = gStep D (afterF rows) (gRun D (afterF rows) root a) (p, k) := by rw [gRun, hxd]
    have hBl := hB.len
    rw [hok.kids] at hBl
    have hbs : (bs.map Value.ref).length = a := by simp [hBl]
    have finW : ∀ (sS : Shared) (h7 : Heap) (tk7 : Nat) (m7 : Str → Option Value) (ta' : Tok) (as7 : List Addr) (tl7 : List (Addr × Obj)) (n17 n27 n37 : Nat) (r : Addr) (rv : List Value), Fr g L h7 m7 →
        News g L h7 ((r, listOf (List.toArray rv) n37) :: (no, listOf (List.toArray (as7.map Value.ref)) n17) :: (ch, listOf (List.toArray (bs.map Value.ref ++ [Value.ref r])) n27) :: (L + 1, oc) :: (tl7 ++ bl)) →
        (∀ q ∈ nv "at" (.int ((a : Int) + 1) ta') :: gamePs af no ch D td, m7 q.1 = some q.2) → TLed as7 ((gRun D (afterF rows) root a).nodes ++ (goalsOf D (afterF rows) p k).map fun q => (q, k + 1)) tl7 →
        IntsAre rv ((List.range (goalsOf D (afterF rows) p k).length).map fun j => (((gRun D (afterF rows) root a).nodes.length + j : Nat) : Int)) → (∀ q ∈ tl7 ++ bl, q.1 ≠ no) → (∀ q ∈ tl7 ++ bl, q.1 ≠ ch) → r ≠ no → r ≠ ch →
        Hold (WEnd g L sS (GameJ rows af D td root (L + 1) oc no ch) (31 - a) { sS with heap := h7, toks := tk7 }) := by
      intro sS h7 tk7 m7 ta' as7 tl7 n17 n27 n37 r rv F7 N7 hp7 hT7 hI7 hn7 hc7 r1 r2
      have hmem : ∀ q ∈ tl7 ++ (bl ++ [(r, listOf (List.toArray rv) n37)]), q ∈ tl7 ++ bl ∨ q = (r, listOf (List.toArray rv) n37) := fun q hq => by
        simp only [List.mem_append, List.mem_singleton] at hq ⊢
        rcases hq with h | h | h <;> simp [h]
      refine WEnd.of (n' := 31 - (a + 1)) F7 N7 ⟨a + 1, ta', as7, bs ++ [r], tl7, bl ++ [(r, listOf (List.toArray rv) n37)], n17, n27, rfl, rfl, rfl, ?_, ?_, ?_, ?_, ?_, ?_⟩ (by omega) hp7 ?_
      · rw [hsucc]; exact hT7
      · rw [hsucc]; exact hB.snoc hI7
      · intro q hq
        rcases hmem q hq with h | rfl
        · exact hn7 q h
        · exact r1
      · intro q hq
        rcases hmem q hq with h | rfl
        · exact hc7 q h
        · exact r2
      · intro a' ha'
        rcases Nat.lt_succ_iff_lt_or_eq.mp ha' with h | rfl
        · exact hall a' h
        · exact hlt
      · rw [hsucc]; simp only [gStep, List.length_append]; omega
      · intro q hq
        simp only [List.map_append, List.map_cons, List.map_nil, List.mem_cons, List.mem_append, List.not_mem_nil, or_false] at hq ⊢
        rcases hq with h | h | h | h | h | h <;> simp [h]
    dsimp only at hkD hP
    walk_at "my steps"
    · rename Fr _ _ _ _ => F11
      rename News _ _ _ _ => N11
      rename p ≠ -1 => hp1
      rename (k : Int) < (D : Int) => hkD1
      rename _ ∧ _ ∧ _ ∧ AllLt _ _ => l5
      rename_i r h11a Fo No h11
      clear Fo No
      obtain ⟨m1, m2, m3, m4⟩ := l5
      replace m4 := allLt_mem m4
      have hgo : goalsOf D (afterF rows) p k = afterF rows p := by rw [goalsOf, if_pos ⟨by omega, hp1⟩]
      obtain ⟨pp, rfl⟩ : ∃ pp : Nat, p = pp := ⟨p.toNat, by omega⟩
      obtain ⟨row, hrw⟩ : ∃ row, rows[pp]? = some row := ⟨rows[pp]'(by omega), by simp⟩
      have haf : afterF rows (pp : Int) = row := by simp [afterF, List.getD_eq_getElem?_getD, hrw]
      obtain ⟨ra, rv, rn, hr1, hr2, hr3⟩ := g4.at pp row hrw
      have hr5 := (hrow row (List.mem_of_getElem? hrw)).1
      have hr4 := hr3.length
      rw [hgo, haf] at finW
      refine ⟨for_any (by assumption) rfl rfl ?_⟩
      walk_at "my steps"
      rename News _ _ _ _ => N12
      rename Fr _ _ _ _ => F12
      refine ⟨for_list hh F12 N12 (isList_of (F12.keep _ _ hr2)) (Nat.ne_of_lt (Nat.lt_of_lt_of_le (Heap.lt_size hr2) F12.above)) (GameJ2 af D td (L + 1) oc no ch r (n2 + 1) bs bl row (gRun D (afterF rows) root a).nodes k ux (k : Int) (a : Int) ta) _ _ (by walk_at "my ps") sub_self
        ⟨as, tl, n1, 0, [], rfl, rfl, by simpa using hT, .nil, hno, hch, fun q hq => Nat.ne_of_lt (m4 q hq)⟩ ?turn2 ?done2⟩
      case turn2 =>
        rintro j v ps led u h12 tk12 own TQ hTQ hv ⟨as', tl', n1', n3', rv', rfl, rfl, hT', hI', q1, q2, q3⟩ F13 N13 hoff13
        simp only [List.cons_append, List.append_assoc] at N13
        obtain ⟨q, tq, rfl, hq⟩ := hr3.at j v (by simpa using hv)
        have hjr : j < row.length := (List.getElem?_eq_some_iff.mp hq).1
        have hTz := hT'.len
        simp only [List.length_append, List.length_map, List.length_take] at hTz
        have hal : (as'.map Value.ref).length = (gRun D (afterF rows) root a).nodes.length + j := by simp [hTz]; omega
        have hrvl := hI'.length
        simp only [List.length_map, List.length_range] at hrvl
        have hra2 : ∀ q ∈ (r, listOf (List.toArray rv') n3') :: (no, listOf (List.toArray (as'.map Value.ref)) n1') :: (ch, listOf (List.toArray (bs.map Value.ref ++ [Value.ref r])) (n2 + 1)) :: (L + 1, oc) :: (tl' ++ bl), q.1 ≠ ra := fun q hq e => by
          have h1 := (N13 q (by
            simp only [List.mem_cons, List.mem_append] at hq ⊢
            rcases hq with h | h | h | h | h | h <;> simp [h])).2.2
          rw [e, hr2] at h1; cases h1
        have hoff14 := fun q hq => hoff13 q hq (hra2 q hq)
        have hca : (bs.map Value.ref ++ [Value.ref r])[a]? = some (.ref r) := by
          rw [List.getElem?_append_right (by omega), hbs, Nat.sub_self]; rfl
        have r1 : r ≠ no := Nat.ne_of_gt m1
        have r2 : r ≠ ch := Nat.ne_of_gt m2
        have r3 : (L + 1 : Nat) ≠ r := Nat.ne_of_lt m3
        have o1 : ∀ p ∈ tl' ++ (bl ++ own), p.1 ≠ no := fun p hp => by
          simp only [List.mem_append] at hp
          rcases hp with h | h | h
          · exact q1 p (by simp [h])
          · exact q1 p (by simp [h])
          · exact hoff14 _ (.tail _ (.head _)) p h
        have o2 : ∀ p ∈ tl' ++ (bl ++ own), p.1 ≠ r := fun p hp => by
          simp only [List.mem_append] at hp
          rcases hp with h | h | h
          · exact q3 p (by simp [h])
          · exact q3 p (by simp [h])
          · exact hoff14 _ (.head _) p h
        walk_at "my steps"
        rename Fr _ _ _ _ => F15
        rename News _ _ _ _ => N15
        rename _ ∧ _ ∧ _ ∧ _ ∧ AllLt _ _ => l6
        rename_i hA tkB z hB' Fo No hC
        obtain ⟨w1, w2, w3, w4, w5⟩ := l6
        have fin2 : ∀ (sS : Shared) (h7 : Heap) (tk7 : Nat) (m7 : Str → Option Value) (t1 u1 t2 : Tok) (nz n1z n3z : Nat), Fr g L h7 m7 → News g L h7 ((z, tupOf q t1 ((k : Int) + 1) u1 nz) :: (r, listOf (List.toArray (rv' ++ [.int (((as'.map Value.ref).length : Nat) : Int) t2])) n3z) :: (no, listOf (List.toArray (as'.map Value.ref ++ [Value.ref z])) n1z) ::
            (ch, listOf (List.toArray (bs.map Value.ref ++ [Value.ref r])) (n2 + 1)) :: (L + 1, oc) :: (tl' ++ (bl ++ own))) →
            (∀ p ∈ nv "ply" (.int (k : Int) ux) :: nv "at" (.int (a : Int) ta) :: gamePs af no ch D td, m7 p.1 = some p.2) → Hold (TEnd g L (.type "list_iterator") own (GameJ2 af D td (L + 1) oc no ch r (n2 + 1) bs bl row (gRun D (afterF rows) root a).nodes k ux (k : Int) (a : Int) ta (j + 1)) sS { sS with heap := h7, toks := tk7 }) := by
          intro sS h7 tk7 m7 t1 u1 t2 nz n1z n3z F7 N7 hp7
          refine TEnd.off F7 N7 ⟨as' ++ [z], tl' ++ [(z, tupOf q t1 ((k : Int) + 1) u1 nz)], n1z, n3z, rv' ++ [.int (((as'.map Value.ref).length : Nat) : Int) t2], rfl, rfl, ?_, ?_, ?_, ?_, ?_⟩ hp7 ?_ ?_ ?_
          · have := hT'.snoc (a := z) (p := q) (t := t1) (kv := (k : Int) + 1) (k := k + 1) (u := u1) (n := nz) (by omega)
            rw [List.take_add_one, hq]
            simpa [List.append_assoc] using this
          · rw [List.range_succ, List.map_append]
            refine IntsAre.append hI' ?_
            rw [hal]
            exact .cons _ _ .nil
          · intro p hp
            simp only [List.mem_append, List.mem_singleton] at hp
            rcases hp with (h | rfl) | h
            · exact q1 p (by simp [h])
            · exact Nat.ne_of_gt w2
            · exact q1 p (by simp [h])
          · intro p hp
            simp only [List.mem_append, List.mem_singleton] at hp
            rcases hp with (h | rfl) | h
            · exact q2 p (by simp [h])
            · exact Nat.ne_of_gt w3
            · exact q2 p (by simp [h])
          · intro p hp
            simp only [List.mem_append, List.mem_singleton] at hp
            rcases hp with (h | rfl) | h
            · exact q3 p (by simp [h])
            · exact Nat.ne_of_gt w1
            · exact q3 p (by simp [h])
          · intro p hp
            simp only [List.map_append, List.map_cons, List.map_nil, List.mem_cons, List.mem_append, List.not_mem_nil, or_false] at hp ⊢
            rcases hp with h | h | h | h | (h | h) | h <;> simp [h]
          · intro p hp
            simp [hp]
          · intro p hp
            simp only [List.mem_cons, List.mem_append, List.not_mem_nil, or_false] at hp
            rcases hp with h | h | h | h | (h | h) | h
            · rw [h]; exact .inl (by simp)
            · rw [h]; exact .inl (by simp)
            · rw [h]; exact .inl (by simp)
            · rw [h]; exact .inr (hoff14 _ (.tail _ (.tail _ (.tail _ (.head _)))))
            · rw [hT'.cls p h]; exact .inl (by simp)
            · rw [h]; exact .inl (by simp)
            · rw [(hB.mem_addr p h).2]; exact .inl (by simp)
        exact fin2 _ _ _ _ _ _ _ _ _ _ F15 N15 (by walk_at "my ps")
      case done2 =>
        rintro ps led u h12 tk12 ⟨as', tl', n1', n3', rv', rfl, rfl, hT', hI', q1, q2, q3⟩ F13 N13
        rw [List.size_toArray, hr4] at hT' hI'
        rw [List.take_length] at hT'
        walk_at "my steps"
        exact finW _ _ _ _ _ _ _ _ _ _ _ _ (by assumption) (by assumption) (by walk_at "my ps") hT' hI' q1 q2 (Nat.ne_of_gt m1) (Nat.ne_of_gt m2)
    · rename p = -1 => hp1
      rename _ ∧ _ ∧ _ ∧ AllLt _ _ => l5
      have hgo : goalsOf D (afterF rows) p k = [] := by rw [goalsOf, if_neg (fun h => h.2 hp1)]
      rw [hgo] at finW
      exact finW _ _ _ _ _ as tl _ _ _ _ [] (by assumption) (by assumption) (by walk_at "my ps") (by simpa using hT) .nil hno hch (Nat.ne_of_gt l5.1) (Nat.ne_of_gt l5.2.1)
    · rename ¬ (k : Int) < (D : Int) => hp1
      rename _ ∧ _ ∧ _ ∧ AllLt _ _ => l5
      have hgo : goalsOf D (afterF rows) p k = [] := by rw [goalsOf, if_neg (fun h => hp1 (by omega))]
      rw [hgo] at finW
      exact finW _ _ _ _ _ as tl _ _ _ _ [] (by assumption) (by assumption) (by walk_at "my ps") (by simpa using hT) .nil hno hch (Nat.ne_of_gt l5.1) (Nat.ne_of_gt l5.2.1)
  · have hTa : a = (gRun D (afterF rows) root a).nodes.length := by omega
    generalize hG : gRun D (afterF rows) root a = G at *
    have hTO := gRun_tree hD hok hTa
    have hpl : ∀ x ∈ G.nodes, x.1 = -1 ∨ (0 ≤ x.1 ∧ x.1 < 6) := fun x hx => (hok.ply x hx).2
    have hkl := hok.kids
    clear hok hall hale hG
    walk_at "my steps"
    refine ⟨LCp.SrcLP.ledger hh F10 N10 (.head _) (by rw [sizeLine_eq]; simp; omega) fun g' => compRestP_inv (n := (List.toArray (as.map Value.ref)).size) (fun i ys news => ys = (G.nodes.take i).map (fun x => Value.bool (x.1 != -1 && lostF ls x.1)) ∧ news = (no, listOf (List.toArray (as.map Value.ref)) n1) :: (ch, listOf (List.toArray (bs.map Value.ref)) n2) :: (L + 1, oc) :: (tl ++ bl)) ?turn ?done _ 0 [] _ rfl ⟨rfl, rfl⟩ (.inr ⟨_, .head _, rfl, _, rfl⟩)⟩
    case turn =>
      rintro i v ys news hi hv ⟨rfl, rfl⟩ hS
      rw [List.size_toArray, hTl'] at hi
      obtain ⟨⟨p, k⟩, hx⟩ : ∃ x, G.nodes[i]? = some x := ⟨_, List.getElem?_eq_getElem hi⟩
      obtain ⟨x, tx, ux, nx, hxa, hxm⟩ := hT.at i p k hx
      have hxr : (List.toArray (as.map Value.ref))[i]? = some (.ref x) := by simp [hxa]
      rw [hxr] at hv
      obtain rfl := Option.some.inj hv
      refine ⟨x, _, _, nx, rfl, .tail _ (.tail _ (.tail _ (List.mem_append_left _ hxm))), fun I oI C oC D' m₂ h13 tk13 hC hx1 hx2 F13 N13 off ne => ?_⟩
      have hstep : (G.nodes.take (i + 1)).map (fun x => Value.bool (x.1 != -1 && lostF ls x.1)) = (G.nodes.take i).map (fun x => Value.bool (x.1 != -1 && lostF ls x.1)) ++ [Value.bool (p != -1 && lostF ls p)] := by
        rw [List.take_add_one, hx]; simp
      rcases hpl _ (List.mem_of_getElem? hx) with hp | hp
      · dsimp only at hp
        subst hp
        walk_at "my steps"
        exact ⟨_, fun p hp => hp, off, hS, by rw [hstep]; rfl, rfl⟩
      · dsimp only at hp
        obtain ⟨pp, rfl⟩ : ∃ pp : Nat, p = pp := ⟨p.toNat, by omega⟩
        obtain ⟨bb, hbb⟩ : ∃ bb, ls[pp]? = some bb := ⟨ls[pp]'(by omega), by simp⟩
        have hlo : (ls.map Value.bool)[pp]? = some (.bool bb) := by simp [hbb]
        have hval : ((pp : Int) != -1 && lostF ls pp) = bb := by
          rw [show ((pp : Int) != -1) = true by simpa using (show (pp : Int) ≠ -1 by omega)]
          simp [lostF, List.getD_eq_getElem?_getD, hbb]
        rw [hval] at hstep
        walk_at "my steps"
        · exact ⟨_, fun p hp => hp, off, hS, hstep.symm, rfl⟩
        · exfalso; omega
    case done =>
      rintro ys news ⟨rfl, rfl⟩ hS
      refine Hold.it ⟨?_⟩
      intro ck h14 tk14 F14 N14 o14
      have o14' := off1_mem o14
      rw [List.size_toArray, hTl', List.take_length] at N14
      have hcks : G.nodes.map (fun x => Value.bool (x.1 != -1 && lostF ls x.1)) = (G.nodes.map fun x => x.1 != -1 && lostF ls x.1).map Value.bool := by rw [List.map_map]; rfl
      rw [hcks] at N14
      walk_at "my steps"
      refine ⟨LCp.SrcLP.ledger hh F14 N14 (.tail _ (.head _)) (by rw [sizeLine_eq]; simp; omega) fun g' => compRestP_inv (n := (List.toArray (as.map Value.ref)).size) (fun i ys news => ys = (G.nodes.take i).map (fun x => Value.bool (x.1 == -1)) ∧ news = (ck, LCg.lst ((G.nodes.map fun x => x.1 != -1 && lostF ls x.1).map Value.bool)) :: (no, listOf (List.toArray (as.map Value.ref)) n1) :: (ch, listOf (List.toArray (bs.map Value.ref)) n2) :: (L + 1, oc) :: (tl ++ bl)) ?turn ?done _ 0 [] _ rfl ⟨rfl, rfl⟩ (.inr ⟨_, .tail _ (.head _), rfl, _, rfl⟩)⟩
      case turn =>
        rintro i v ys news hi hv ⟨rfl, rfl⟩ hS
        rw [List.size_toArray, hTl'] at hi
        obtain ⟨⟨p, k⟩, hx⟩ : ∃ x, G.nodes[i]? = some x := ⟨_, List.getElem?_eq_getElem hi⟩
        obtain ⟨x, tx, ux, nx, hxa, hxm⟩ := hT.at i p k hx
        have hxr : (List.toArray (as.map Value.ref))[i]? = some (.ref x) := by simp [hxa]
        rw [hxr] at hv
        obtain rfl := Option.some.inj hv
        refine ⟨x, _, _, nx, rfl, .tail _ (.tail _ (.tail _ (.tail _ (List.mem_append_left _ hxm)))), fun I oI C oC D' m₂ h13 tk13 hC hx1 hx2 F13 N13 off ne => ?_⟩
        have hstep : (G.nodes.take (i + 1)).map (fun x => Value.bool (x.1 == -1)) = (G.nodes.take i).map (fun x => Value.bool (x.1 == -1)) ++ [Value.bool (p == -1)] := by
          rw [List.take_add_one, hx]; simp
        walk_at "my steps"
        exact ⟨_, fun p hp => hp, off, hS, hstep.symm, rfl⟩
      case done =>
        rintro ys news ⟨rfl, rfl⟩ hS
        refine Hold.it ⟨?_⟩
        intro dr h15 tk15 F15 N15 o15
        have o15' := off1_mem o15
        rw [List.size_toArray, hTl', List.take_length] at N15
        have hdrs : G.nodes.map (fun x => Value.bool (x.1 == -1)) = (G.nodes.map fun x => x.1 == -1).map Value.bool := by rw [List.map_map]; rfl
        rw [hdrs] at N15
        walk_at "my steps"
        refine ⟨LCg.CompSrc.ledger hh F15 N15 (.tail _ (.tail _ (.tail _ (.head _)))) (by rw [sizeLine_eq]; have := hB.len; simp; omega) fun g' => compRest_inv (n := (List.toArray (bs.map Value.ref)).size) (fun i ys news => news = (dr, LCg.lst ((G.nodes.map fun x => x.1 == -1).map Value.bool)) :: (ck, LCg.lst ((G.nodes.map fun x => x.1 != -1 && lostF ls x.1).map Value.bool)) :: (no, listOf (List.toArray (as.map Value.ref)) n1) :: (ch, listOf (List.toArray (bs.map Value.ref)) n2) :: (L + 1, oc) :: (tl ++ bl)) ?turn ?done _ 0 [] _ rfl rfl (.inr ⟨_, .tail _ (.tail _ (.tail _ (.head _))), rfl, _, rfl⟩)⟩
        case turn =>
          rintro i v ys news I oI C oC D' m₂ h16 tk16 hi hv rfl hS hC hx1 F16 N16 off ne
          have hBl := hB.len
          rw [List.size_toArray, List.length_map] at hi
          obtain ⟨b, hb⟩ : ∃ b, bs[i]? = some b := ⟨_, List.getElem?_eq_getElem hi⟩
          obtain ⟨rv, rn, row, hrw, hrm, hri⟩ := hB.at i b hb
          have hbr : (List.toArray (bs.map Value.ref))[i]? = some (.ref b) := by simp [hb]
          rw [hbr] at hv
          obtain rfl := Option.some.inj hv
          obtain ⟨⟨p, k⟩, hx⟩ : ∃ x, G.nodes[i]? = some x := ⟨_, List.getElem?_eq_getElem (by omega)⟩
          obtain ⟨_, _, row', hrow', hr2, _⟩ := hTO.node i p k hx
          rw [hrw] at hrow'
          obtain rfl := Option.some.inj hrow'
          have hrl2 : rv.length = row.length := hri.length
          have hrm' : (b, listOf (List.toArray rv) rn) ∈ (dr, LCg.lst ((G.nodes.map fun x => x.1 == -1).map Value.bool)) :: (ck, LCg.lst ((G.nodes.map fun x => x.1 != -1 && lostF ls x.1).map Value.bool)) :: (no, listOf (List.toArray (as.map Value.ref)) n1) :: (ch, listOf (List.toArray (bs.map Value.ref)) n2) :: (L + 1, oc) :: (tl ++ bl) :=
            (.tail _ (.tail _ (.tail _ (.tail _ (.tail _ (List.mem_append_right _ hrm))))))
          replace hri : Hold _ := ⟨hri⟩
          walk_at "my steps"
          exact ⟨_, fun p hp => .tail _ (.tail _ hp), off, hS, rfl⟩
        case done =>
          rintro ys news rfl hS
          refine Hold.it ⟨?_⟩
          intro mk h17 tk17 F17 N17 o17
          have o17' := off1_mem o17
          walk_at "my steps"
          rename Fr _ _ _ _ => F18
          rename News _ _ _ _ => N18
          rename_i va h18 l18
          refine ⟨call_cls (fI := 121) F18 X N18 (by k_is) (by k_is) (by k_is) fun x dx h19 F19 N19 l19 hdx => ?_⟩
          refine Spc.use (init_spec w x dx ch va ck dr mk mk hdx) hh (by rw [depth_under_kw]; omega) (by rw [units_under_make]; omega) F19 N19 X T ((va, listOf (List.toArray (List.replicate (as.map Value.ref).length (.int 0 tk17))) 0) :: (mk, LCg.lst ys) :: (dr, LCg.lst ((G.nodes.map fun x => x.1 == -1).map Value.bool)) :: (ck, LCg.lst ((G.nodes.map fun x => x.1 != -1 && lostF ls x.1).map Value.bool)) :: (no, listOf (List.toArray (as.map Value.ref)) n1) :: (ch, listOf (List.toArray (bs.map Value.ref)) n2) :: (L + 1, oc) :: (tl ++ bl)) (by walk_at "my sub") (fun p hp => ?_) ?_ (fun _ _ _ => trivial) ?_
          · rcases List.mem_cons.mp hp with rfl | hp
            · exact .tail _ (.tail _ (.head _))
            · exact .tail _ (.tail _ (.tail _ (.tail _ hp)))
          · intro q hq q' hq'
            have h1 := l19 q (by
              rcases List.mem_cons.mp hq with rfl | hq
              · exact .head _
              · exact .tail _ (.tail _ hq))
            simp only [List.mem_cons, List.not_mem_nil, or_false] at hq'
            rcases hq' with rfl | rfl
            · exact Nat.ne_of_lt (Nat.lt_trans h1 hdx)
            · exact Nat.ne_of_lt h1
          · rintro g1 r nw h20 tk20 st hk F20 N20 hfr hne ⟨rfl, pa, t, t1, t2, t3, t4, t5, t6, t7, rfl, hpx, hpd⟩
            refine (show _ ∧ _ from ⟨rfl, ?_⟩)
            simp only [List.cons_append, List.nil_append] at N20
            have hne' := hne _ (.head _)
            have hkk : (List.map Value.ref as).length = G.kids.length := by omega
            refine hQF.it _ _ ⟨_, _, _, _, rfl, F20, N20, ⟨_, sub_self, x, pa, t, 0, _, G.nodes, G.kids, _, _, rfl, rfl, ?_, ?_, hTO, hok0⟩⟩
            · intro q hq
              rcases List.mem_cons.mp hq with rfl | hq
              · exact hpx.symm
              · rcases List.mem_cons.mp hq with rfl | hq
                · exact hpd.symm
                · exact (hne' q hq).symm
            · intro g' hg'
              refine ⟨dx, ch, va, ck, dr, mk, mk, t1, t2, t3, t4, t5, t6, t7, bs.map Value.ref, n2, _, _, _, _, hg' _ (.head _), hg' _ (.tail _ (.head _)), hg' (ch, listOf (List.toArray (bs.map Value.ref)) n2) (by simp), hB.rows (fun p hp => hg' p (by simp [hp])), hg' _ (.tail _ (.tail _ (.head _))), ?_,
                hg' (ck, LCg.lst ((G.nodes.map fun x => x.1 != -1 && lostF ls x.1).map Value.bool)) (by simp), hg' (dr, LCg.lst ((G.nodes.map fun x => x.1 == -1).map Value.bool)) (by simp)⟩
              rw [hkk]; exact ints_rep0
end Mine
namespace Mine
/-- the end of the law's body -/
def LEnd (s : Shared) (fl : Flow) (s' : Shared) : Prop := fl = .ret (.bool true) ∧ ∃ h' tk', s' = { s with heap := h', toks := tk' } ∧ ∀ b o, s.heap.get? b = some o → h'.get? b = some o
def LEndG (g : Heap) (s : Shared) (fl : Flow) (s' : Shared) : Prop := Hold (fl = .ret (.bool true) ∧ ∃ h' tk', s' = { s with heap := h', toks := tk' } ∧ ∀ b o, g.get? b = some o → h'.get? b = some o)
theorem law_enter {prog : Program} {w : World} {K : Frag} {p : Program} {loose : List Str} {mean : ExcName → Option Value} {mg mb : Str → Option Value} {s₁ : Shared} {h₁ : Heap} {tk : Nat} {m : Str → Option Value} {sc : Addr} {vs : List Value} {ns : List Int}
    {e : Env} {body : List Stmt} {env : Env} {Q : Flow → Shared → Prop} {E : Value → Shared → Prop}
    (F : Fr s₁.heap s₁.heap.objs.size h₁ m) (N : News s₁.heap s₁.heap.objs.size h₁ []) (X : K.In s₁.heap) (T : Top p loose mean mg mb s₁.heap) (hL : s₁.heap.IsList sc vs.toArray) (hI : IntsAre vs ns) (hn : ¬ ((63 : Nat) : Int) < (ns.length : Int))
    (hQ : ∀ fl s', LEndG s₁.heap s₁ fl s' → Q fl s')
    (h : ∀ (A : Around) (g : Heap) (L : Addr) (S : Shared) (QF : Flow → Shared → Prop), OutH (LEndG g S) QF → L = s₁.heap.objs.size → A.handled = none → A.depth + 40 < recursionLimit → A.units + 120 < cLine → Fr g L h₁ m → News g L h₁ [] → K.In g → TopRead p loose mg mb g → g.IsList sc vs.toArray → IntsAre vs ns → ns.length ≤ 63 →
      wpAny (model prog w) A (execs body env) (Out QF) (fun _ _ => False) { S with heap := h₁, toks := tk }) : wpAny (model prog w) (callerA.deeper e) (execs body env) Q E { s₁ with heap := h₁, toks := tk } := by
  refine wpAny_mono (h (callerA.deeper e) s₁.heap _ s₁ _ .self rfl rfl (by rw [depth_deeper]; decide) (by rw [units_deeper]; decide) F N X (topRead_of T) hL hI (by omega)) hQ fun _ _ x => x.elim
end Mine
namespace Mine
/-- the places drawn so far -/
structure LawRows (i : Nat) (rows : List (List Int)) (ls : List Bool) : Prop where
  n : rows.length = i
  l : ls.length = i
  mv : ∀ (j : Nat) (row : List Int), rows[j]? = some row → row.length ≤ 2 ∧ ∀ x ∈ row, okMove (j : Int) x
  lost : ∀ j : Nat, ls[j]? = some true → 3 ≤ j ∧ rows[j]? = some []
theorem LawRows.snoc {i : Nat} {rows : List (List Int)} {ls : List Bool} (h : LawRows i rows ls) {xs : List Int} {b : Bool} (h1 : xs.length ≤ 2) (h2 : ∀ x ∈ xs, okMove (i : Int) x) (h3 : b = true → 3 ≤ i ∧ xs = []) : LawRows (i + 1) (rows ++ [xs]) (ls ++ [b]) := by
  refine ⟨by simp [h.n], by simp [h.l], fun j row hj => ?_, fun j hj => ?_⟩
  · by_cases e : j < i
    · rw [List.getElem?_append_left (by rw [h.n]; exact e)] at hj
      exact h.mv j row hj
    · have hl := (List.getElem?_eq_some_iff.mp hj).1
      rw [List.length_append, List.length_singleton, h.n] at hl
      obtain rfl : j = i := by omega
      rw [List.getElem?_append_right (by rw [h.n]; exact Nat.le_refl _), h.n, Nat.sub_self] at hj
      cases hj
      exact ⟨h1, h2⟩
  · by_cases e : j < i
    · rw [List.getElem?_append_left (by rw [h.l]; exact e)] at hj
      rw [List.getElem?_append_left (by rw [h.n]; exact e)]
      exact h.lost j hj
    · have hl := (List.getElem?_eq_some_iff.mp hj).1
      rw [List.length_append, List.length_singleton, h.l] at hl
      obtain rfl : j = i := by omega
      rw [List.getElem?_append_right (by rw [h.l]; exact Nat.le_refl _), h.l, Nat.sub_self] at hj
      obtain ⟨a, b⟩ := h3 (Option.some.inj hj)
      exact ⟨a, by rw [List.getElem?_append_right (by rw [h.n]; exact Nat.le_refl _), h.n, Nat.sub_self, b]; rfl⟩
abbrev lawPs (die af lo : Addr) : List (Str × Value) := [nv "die" (.ref die), nv "after" (.ref af), nv "lost" (.ref lo)]
def LawJ (die af lo sl : Addr) (osl : Obj) (i : Nat) (ps : List (Str × Value)) (led : List (Addr × Obj)) : Prop :=
  ∃ (k : Int) (t : Tok) (n : Nat) (rs : List Addr) (rows : List (List Int)) (ls : List Bool) (bl : List (Addr × Obj)) (n1 n2 : Nat), 0 ≤ k ∧ ps = lawPs die af lo ∧
    led = (die, dieOf sl k t n) :: (af, listOf (List.toArray (rs.map Value.ref)) n1) :: (lo, listOf (List.toArray (ls.map Value.bool)) n2) :: (sl, osl) :: bl ∧ BLed rs rows bl ∧ LawRows i rows ls ∧ (∀ p ∈ bl, p.1 ≠ die) ∧ (∀ p ∈ bl, p.1 ≠ af) ∧ (∀ p ∈ bl, p.1 ≠ lo)
abbrev lawPs2 (af lo ta : Addr) (D : Nat) (td : Tok) : List (Str × Value) := [nv "after" (.ref af), nv "lost" (.ref lo), nv "table" (.ref ta), nv "depth" (.int (D : Int) td)]
def LawJ2 (led0 : List (Addr × Obj)) (af lo ta : Addr) (D : Nat) (_ : Nat) (ps : List (Str × Value)) (led : List (Addr × Obj)) : Prop := ∃ td, ps = lawPs2 af lo ta D td ∧ led = led0

/-- the end of the law's first if -/
def LDue (g : Heap) (L af lo ta : Addr) (D : Nat) (td : Tok) (rr : Nat) (tr : Tok) (led : List (Addr × Obj)) (v : Int) (s : Shared) (fl : Flow) (s' : Shared) : Prop :=
  Hold (fl = .next ∧ ∃ h' tk' m' tdue, s' = { s with heap := h', toks := tk' } ∧ Fr g L h' (kstB m' (nv "due" (.int v tdue) :: nv "root" (.int (rr : Int) tr) :: lawPs2 af lo ta D td)) ∧ News g L h' led)
theorem LDue.of {g : Heap} {L af lo ta : Addr} {D : Nat} {td : Tok} {rr : Nat} {tr : Tok} {led all : List (Addr × Obj)} {v : Int} {s : Shared} {h' : Heap} {tk' : Nat} {m : Str → Option Value} {tdue : Tok}
    (F : Fr g L h' m) (N : News g L h' all) (hl : ∀ p ∈ led, p ∈ all) (hp : ∀ p ∈ nv "due" (.int v tdue) :: nv "root" (.int (rr : Int) tr) :: lawPs2 af lo ta D td, m p.1 = some p.2) : LDue g L af lo ta D td rr tr led v s .next { s with heap := h', toks := tk' } :=
  ⟨rfl, h', tk', m, tdue, rfl, by rw [kstB_bind hp rfl]; exact F, News.sub N hl⟩
theorem Bnd.full {a b r v : Int} (h : Bnd a b r v) (h1 : a < v) (h2 : v < b) : r = v := by
  obtain ⟨x, y, z⟩ := h
  by_cases c : r ≤ a
  · have := x c; omega
  · by_cases d : b ≤ r
    · have := y d; omega
    · exact z (by omega) (by omega)
theorem Bnd.low {r v : Int} (h : Bnd v (v + 1) r v) : r ≤ v := by
  obtain ⟨x, y, z⟩ := h
  by_cases d : v + 1 ≤ r
  · have := y d; omega
  · omega
theorem Bnd.high {r v : Int} (h : Bnd (v - 1) v r v) : v ≤ r := by
  obtain ⟨x, y, z⟩ := h
  by_cases d : r ≤ v - 1
  · have := x d; omega
  · omega
abbrev sides6 : List Int := [0, 0, 0, 1, 1, 1]
theorem LawRows.row {rows : List (List Int)} {ls : List Bool} (h : LawRows 6 rows ls) : ∀ r ∈ rows, r.length ≤ 2 ∧ ∀ m ∈ r, m = -1 ∨ (0 ≤ m ∧ m < 6) := by
  intro r hr
  obtain ⟨j, hj⟩ := List.getElem?_of_mem hr
  have hl := (List.getElem?_eq_some_iff.mp hj).1
  rw [h.n] at hl
  obtain ⟨a, b⟩ := h.mv j r hj
  refine ⟨a, fun m hm => ?_⟩
  have := b m hm
  unfold okMove at this
  omega
theorem LawRows.fit {rows : List (List Int)} {ls : List Bool} (h : LawRows 6 rows ls) : Fit sides6 rows ls :=
  ⟨by rw [h.n]; decide, by rw [h.n]; rfl, by rw [h.n, h.l], fun r hr => by
    have := h.row r hr
    rw [h.n]; exact this⟩
theorem LawRows.lostAt {rows : List (List Int)} {ls : List Bool} (h : LawRows 6 rows ls) {p : Int} (hp : lostF ls p = true) : ls[p.toNat]? = some true := by
  unfold lostF at hp
  rw [List.getD_eq_getElem?_getD] at hp
  cases e : ls[p.toNat]? with
  | none => rw [e] at hp; cases hp
  | some b => rw [e] at hp; exact congrArg some hp
theorem LawRows.places {rows : List (List Int)} {ls : List Bool} (h : LawRows 6 rows ls) : Places rows ls := by
  refine ⟨h.n, fun p h0 h1 x hx => ?_, fun p h0 hp => ?_, fun p hp => ?_⟩
  · unfold afterF at hx
    rw [List.getD_eq_getElem?_getD] at hx
    cases e : rows[p.toNat]? with
    | none => rw [e] at hx; cases hx
    | some r =>
      rw [e] at hx
      have := (h.mv p.toNat r e).2 x hx
      rw [Int.toNat_of_nonneg h0] at this
      exact this
  · have h1 := h.lostAt hp
    have h2 := (h.lost _ h1).1
    have h3 := (List.getElem?_eq_some_iff.mp h1).1
    rw [h.l] at h3
    omega
  · have := (h.lost _ (h.lostAt hp)).2
    simp [afterF, List.getD_eq_getElem?_getD, this]
theorem side6 : ∀ p : Int, 0 ≤ p → p < 6 → (sideF sides6 p = 0 ↔ p < 3) := by
  intro p h0 h1
  have : p = 0 ∨ p = 1 ∨ p = 2 ∨ p = 3 ∨ p = 4 ∨ p = 5 := by omega
  rcases this with rfl | rfl | rfl | rfl | rfl | rfl <;> decide
theorem law_due {rows : List (List Int)} {ls : List Bool} (h : LawRows 6 rows ls) {vals : List Int} (hS : SolvedVals sides6 rows ls vals) :
    vals.length = 6 ∧ (∀ p : Int, 0 ≤ p → p < 6 → -1 ≤ vals.getD p.toNat 0) ∧ ∀ (d : Nat) (p : Int), 0 ≤ p → p < 6 → d ≤ 4 → NM (afterF rows) (lostF ls) d p 0 = dueOf (fun n => vals.getD n.toNat 0) d 0 p := by
  obtain ⟨a, ha, hall, rfl⟩ := hS
  have T := table_of h.fit h.places.empty ha hall
  have hok := runS_ok (ss := sides6) (iniAll_run rows ls) (iniAll_ok rows ls rows.length (Nat.le_refl _)).befs a hall
  refine ⟨by rw [hok.vals, h.n], fun p h0 h1 => T.ge p h0 (by rw [h.n]; exact h1), fun d p h0 h1 hd => ?_⟩
  exact NM_due h.places side6 T d p 0 h0 h1 (by omega)
section
variable {prog : Program} {w : World} {f : Addr} {vs : List Value} {dp un : Nat} {Post : Heap → Value → List (Addr × Obj) → Prop} {game pa : Addr} {kids : List (List Int)} {cks drs : List Bool} {o : Obj}
  {A : Around} {h₀ : Heap} {L : Addr} {m : Str → Option Value} {objs rest : List (Addr × Obj)} {s : Shared} {p : Program} {loose : List Str} {mg mb : Str → Option Value} {Q E : Value → Shared → Prop}
/-- a call on a game that lies in the ledger -/
theorem callL (C : Spc prog w (Mine.hd.heap_1 w.params) f vs [] dp un (GameR w game pa kids cks drs) [(pa, o)] Post) (hG : ∀ g' : Heap, (∀ q ∈ objs, g'.get? q.1 = some q.2) → GameR w game pa kids cks drs g') (hh : A.handled = none) (hd : A.depth + dp < recursionLimit) (hu : A.units + un < cLine)
    (F : Fr h₀ L s.heap m) (N : News h₀ L s.heap ((pa, o) :: (objs ++ rest))) (X : (Mine.hd.heap_1 w.params).In h₀) (T : TopRead p loose mg mb h₀) (hoff : ∀ p ∈ objs ++ rest, p.1 ≠ pa)
    (ret : ∀ g r nw h' tk', Fr h₀ L h' m → News h₀ L h' (nw ++ (objs ++ rest)) → Post g r nw → Q r { s with heap := h', toks := tk' }) :
    wpAny (model prog w) A (PySem.call (.ref f) vs) Q E s :=
  Spc.call1 C hh hd hu F N X T .head hoff (fun g' _ hkk => hG g' fun q hq => hkk q (List.mem_append_left _ hq)) fun g r nw h' tk' _ F' N' _ hP => ret g r nw h' tk' F' N' hP
end
end Mine
local macro_rules | `(tactic| walk_at "exec If Compare") => `(tactic| ((fail_if_success (with_reducible show wpAny _ _ _ (Mine.LDue _ _ _ _ _ _ _ _ _ _ _ _) _ _)); refine Mine.Hold.it ?_))
local macro_rules | `(tactic| k_qdec) => `(tactic| decide +kernel)
namespace Mine
set_option maxHeartbeats 4000000 in
theorem holds : PySem.Challenge.rw_sm0017_01.Holds := Mine.hd (by
  k_go0
  rename Fr _ _ _ _ => F0
  rename News _ _ _ _ => N0
  rename Frag.In _ _ => X
  rename Top _ _ _ _ _ _ => T0
  rename IntsAre _ _ => hI
  rename Heap.IsList _ _ _ => hL
  rename ¬ _ => hlen
  rename (_ : Shared).gens = _ => hgens
  refine law_enter F0 N0 X T0 hL hI hlen ?post ?body
  case post =>
    rintro fl s' ⟨rfl, h', tk', rfl, hk⟩
    refine ⟨.inl ⟨.bool true, .bool true, [], rfl, raisesW_false (by wrow_none_raised), .bool true, ?_, fun _ => ⟨.nil, fun _ h => nomatch h⟩⟩, hk, rfl, hgens⟩
    wrow_post
  case body =>
    clear hgens hlen hL hI N0 F0 X
    intro A g L S QF hQF hL0 hh hd hu F N X T hS hI hlen
    rw [← hL0]
    walk_at "my steps"
    rename Fr _ _ _ _ => F1
    rename News _ _ _ _ => N1
    rename_i tka sl ws h8 hIs hCs hLs l4 die h7 l3 h6 tkb af h5 l2 lo h4 l1 tup h3 l0 h2 h1 h0
    clear l4 hS hI
    have hIs' : Hold (IntsAre ws _) := ⟨hIs⟩
    clear hIs
    have da : die ≠ af := Nat.ne_of_lt l2.1
    have dl : die ≠ lo := Nat.ne_of_lt l1.2.1
    have ds : sl ≠ die := Nat.ne_of_lt l3
    have al : af ≠ lo := Nat.ne_of_lt l1.1
    have sa : sl ≠ af := Nat.ne_of_lt l2.2
    have so : sl ≠ lo := Nat.ne_of_lt l1.2.2
    refine ⟨for_any (by assumption) rfl rfl ?_⟩
    walk_at "my steps"
    rename IsRange _ _ _ _ _ _ _ _ => rg
    rename Fr _ _ _ _ => F2
    rename News _ _ _ _ => N2
    have hDie : ∀ g' : Heap, g'.get? sl = some (listOf (List.toArray ws) 0) → DieR sl g' := fun g' e => ⟨ws, _, isList_of e, hIs'.it, by omega⟩
    refine ⟨for_range0 (n := 6) hh F2 N2 rg rfl (by omega) (LawJ die af lo sl (listOf (List.toArray ws) 0)) _ _ (by walk_at "my ps") (by walk_at "my sub") ⟨0, _, 0, [], [], [], [], 0, 0, Int.le_refl _, rfl, rfl, .nil, ⟨rfl, rfl, fun _ _ h => by simp at h, fun _ h => by simp at h⟩, fun _ h => (nomatch h), fun _ h => (nomatch h), fun _ h => (nomatch h)⟩ ?turn ?done⟩
    case turn =>
      rintro i tn ps led u h9 tk9 own TQ hTQ hi ⟨k, t, n, rs, rows, ls, bl, n1, n2, hk, rfl, rfl, hB, hR, ne1, ne2, ne3⟩ F9 N9 hoff9 hcl9
      simp only [List.cons_append] at N9
      have o1 : ∀ p ∈ bl ++ own, p.1 ≠ die := fun p hp => (List.mem_append.mp hp).elim (ne1 p) (hoff9 _ (.head _) p)
      have o2 : ∀ p ∈ bl ++ own, p.1 ≠ af := fun p hp => (List.mem_append.mp hp).elim (ne2 p) (hoff9 _ (.tail _ (.head _)) p)
      have o3 : ∀ p ∈ bl ++ own, p.1 ≠ lo := fun p hp => (List.mem_append.mp hp).elim (ne3 p) (hoff9 _ (.tail _ (.tail _ (.head _))) p)
      walk_at "my steps"
      refine ⟨Spc.call (moves_spec _ die sl k (i : Int) t tn n hk) hh (by omega) (by omega) F9 N9 X T ((af, listOf (List.toArray (rs.map Value.ref)) n1) :: (lo, listOf (List.toArray (ls.map Value.bool)) n2) :: (sl, listOf (List.toArray ws) 0) :: (bl ++ own)) (by walk_at "my sub") (by walk_at "my sub") (fun q hq q' hq' => ?off) (fun g' _ hkk => hDie g' (hkk (sl, _) (.tail _ (.tail _ (.head _))))) ?_⟩
      case off =>
        rw [List.mem_singleton.mp hq']
        rcases List.mem_cons.mp hq with rfl | hq
        · exact da.symm
        rcases List.mem_cons.mp hq with rfl | hq
        · exact dl.symm
        rcases List.mem_cons.mp hq with rfl | hq
        · exact ds
        · exact o1 q hq
      rintro g2 r nw h10 tk10 - - F10 N10 - hne ⟨k', t', l, vs, xs, n', rfl, rfl, hk0, hdl, hIx, hlx, hok⟩
      have hne' := hne _ (.tail _ (.head _))
      clear hne
      have la : l ≠ af := hne' _ (.head _)
      have lo' : l ≠ lo := hne' _ (.tail _ (.head _))
      have ls' : l ≠ sl := hne' _ (.tail _ (.tail _ (.head _)))
      have lr : ∀ p ∈ bl ++ own, p.1 ≠ l := fun p hp => (hne' p (.tail _ (.tail _ (.tail _ hp)))).symm
      simp only [List.cons_append, List.nil_append] at N10
      have hrl := hB.len
      rw [hR.n] at hrl
      have hrl' : (rs.map Value.ref).length = i := by simp [hrl]
      have hll : (ls.map Value.bool).length = i := by simp [hR.l]
      have hcl : (rs.map Value.ref ++ [Value.ref l])[i]? = some (.ref l) := by
        rw [List.getElem?_append_right (by omega), hrl', Nat.sub_self]; rfl
      have finL : ∀ (sS : Shared) (h7 : Heap) (tk7 : Nat) (m7 : Str → Option Value) (kk : Int) (tt : Tok) (b : Bool) (n17 n27 : Nat) (all : List (Addr × Obj)), Fr g L h7 m7 → News g L h7 all →
          (∀ p ∈ (die, dieOf sl kk tt n) :: (l, listOf (List.toArray vs) n') :: (af, listOf (List.toArray (rs.map Value.ref ++ [Value.ref l])) n17) :: (lo, listOf (List.toArray (ls.map Value.bool ++ [Value.bool b])) n27) :: (sl, listOf (List.toArray ws) 0) :: (bl ++ own), p ∈ all) →
          (∀ p ∈ lawPs die af lo, m7 p.1 = some p.2) → 0 ≤ kk → (b = true → 3 ≤ i ∧ xs = []) → Hold (TEnd g L (.type "range_iterator") own (LawJ die af lo sl (listOf (List.toArray ws) 0) (i + 1)) sS { sS with heap := h7, toks := tk7 }) := by
        intro sS h7 tk7 m7 kk tt b n17 n27 all F7 N7 hsub hp7 hkk hb
        have hmem : ∀ q ∈ bl ++ [(l, listOf (List.toArray vs) n')], q ∈ bl ∨ q = (l, listOf (List.toArray vs) n') := fun q hq => by simpa using hq
        refine TEnd.of F7 N7 ⟨kk, tt, n, rs ++ [l], rows ++ [xs], ls ++ [b], bl ++ [(l, listOf (List.toArray vs) n')], n17, n27, hkk, rfl, rfl, hB.snoc hIx, hR.snoc hlx hok hb, ?_, ?_, ?_⟩ hp7 ?_ ?_ ?_
        · intro q hq
          rcases hmem q hq with h | rfl
          · exact ne1 q h
          · exact hdl.symm
        · intro q hq
          rcases hmem q hq with h | rfl
          · exact ne2 q h
          · exact la
        · intro q hq
          rcases hmem q hq with h | rfl
          · exact ne3 q h
          · exact lo'
        · intro q hq
          refine hsub q ?_
          simp only [List.map_append, List.map_cons, List.map_nil, List.mem_cons, List.mem_append, List.not_mem_nil, or_false] at hq ⊢
          rcases hq with h | h | h | h | h | h <;> simp [h]
        · intro q hq
          exact hsub q (by simp [hq])
        · intro q hq
          simp only [List.mem_cons, List.mem_append, List.not_mem_nil, or_false] at hq
          rcases hq with h | h | h | h | h | h
          · rw [h]; simp
          · rw [h]; simp
          · rw [h]; simp
          · rw [h]; simp
          · rw [(hB.mem_addr q h).2]; simp
          · rw [h]; simp
      walk_at "my steps"
      · rename Fr _ _ _ _ => F11
        rename News _ _ _ _ => N11
        rename _ ∧ _ ∧ _ ∧ _ ∧ _ ∧ AllLt _ _ => l5
        rename (2 : Int) < (i : Int) => hi2
        rename decide (xs = []) = true => hxs
        rename_i tmp h11
        have tdie : tmp ≠ die := Nat.ne_of_gt l5.1
        refine ⟨Spc.call (roll_spec _ die sl k' 2 t' _ n hk0 (by decide)) hh (by omega) (by omega) F11 N11 X T ((l, listOf (List.toArray vs) n') :: (af, listOf (List.toArray (rs.map Value.ref ++ [Value.ref l])) (n1 + 1)) :: (lo, listOf (List.toArray (ls.map Value.bool)) n2) :: (sl, listOf (List.toArray ws) 0) :: (bl ++ own)) (by walk_at "my sub") (by walk_at "my sub") (fun q hq q' hq' => ?off) (fun g' _ hkk => hDie g' (hkk (sl, _) (.tail _ (.tail _ (.tail _ (.head _)))))) ?_⟩
        case off =>
          rw [List.mem_singleton.mp hq']
          rcases List.mem_cons.mp hq with rfl | hq
          · exact hdl.symm
          rcases List.mem_cons.mp hq with rfl | hq
          · exact da.symm
          rcases List.mem_cons.mp hq with rfl | hq
          · exact dl.symm
          rcases List.mem_cons.mp hq with rfl | hq
          · exact ds
          · exact o1 q hq
        rintro g3 r nw h12 tk12 - - F12 N12 - - ⟨⟨t9, rfl⟩, v, t8, rfl, hv0, hv1⟩
        simp only [List.cons_append, List.nil_append] at N12
        walk_at "my steps"
        exact finL _ _ _ _ _ _ _ _ _ _ (by assumption) (by assumption) (by walk_at "my sub") (by walk_at "my ps") (by omega) (fun _ => ⟨by omega, of_decide_eq_true hxs⟩)
      · rename decide (xs = []) = false => hxs
        exact finL _ _ _ _ _ _ _ _ _ _ (by assumption) (by assumption) (by walk_at "my sub") (by walk_at "my ps") hk0 (fun h => by rw [hxs] at h; cases h)
      · rename ¬ (2 : Int) < (i : Int) => hi2
        exact finL _ _ _ _ _ _ _ _ _ _ (by assumption) (by assumption) (by walk_at "my sub") (by walk_at "my ps") hk0 (fun h => absurd (of_decide_eq_true h) hi2)
    case done =>
      rintro ps led u h9 tk9 ⟨k, t, n, rs, rows, ls, bl, n1, n2, hk, rfl, rfl, hB, hR, ne1, ne2, ne3⟩ F9 N9
      walk_at "my steps"
      rename Fr _ _ _ _ => F10
      rename News _ _ _ _ => N10
      rename_i sd h10 l10
      refine ⟨Spc.call (solve_spec _ sd af lo sides6 rows ls hR.fit) hh (by omega) (by omega) F10 N10 X T ((sd, listOf #[Value.int 0 294, Value.int 0 294, Value.int 0 294, Value.int 1 296, Value.int 1 296, Value.int 1 296] 0) :: (die, dieOf sl k t n) :: (af, listOf (List.toArray (rs.map Value.ref)) n1) :: (lo, listOf (List.toArray (ls.map Value.bool)) n2) :: (sl, listOf (List.toArray ws) 0) :: bl) (fun _ h => nomatch h) (by walk_at "my sub") (fun _ _ _ h => nomatch h) (fun g' _ hkk => ⟨_, 0, rs.map Value.ref, n1, n2, hkk (sd, listOf (List.toArray [Value.int 0 294, Value.int 0 294, Value.int 0 294, Value.int 1 296, Value.int 1 296, Value.int 1 296]) 0) (.head _), .cons _ _ (.cons _ _ (.cons _ _ (.cons _ _ (.cons _ _ (.cons _ _ .nil))))), hkk (af, _) (.tail _ (.tail _ (.head _))), hB.rows (fun p hp => hkk p (.tail _ (.tail _ (.tail _ (.tail _ (.tail _ hp)))))), hkk (lo, _) (.tail _ (.tail _ (.tail _ (.head _))))⟩) ?_⟩
      rintro g2 r nw h11 tk11 - - F11 N11 - hne ⟨ta, vv, nvt, vals, rfl, rfl, hIv, hSV⟩
      have hne' := hne _ (.head _)
      clear hne
      have dta : die ≠ ta := (hne' _ (.tail _ (.head _))).symm
      obtain ⟨hvl, hvg, hdue⟩ := law_due hR hSV
      have N12 : News g L h11 ((die, dieOf sl k t n) :: (ta, listOf (List.toArray vv) nvt) :: (af, listOf (List.toArray (rs.map Value.ref)) n1) :: (lo, listOf (List.toArray (ls.map Value.bool)) n2) :: (sl, listOf (List.toArray ws) 0) :: bl) := News.sub N11 (by walk_at "my sub")
      clear N11 N10
      replace hIv : Hold _ := ⟨hIv⟩
      have hoffd : ∀ q ∈ ((ta, listOf (List.toArray vv) nvt) :: (af, listOf (List.toArray (rs.map Value.ref)) n1) :: (lo, listOf (List.toArray (ls.map Value.bool)) n2) :: (sl, listOf (List.toArray ws) 0) :: bl), q.1 ≠ die := by
        intro q hq
        rcases List.mem_cons.mp hq with rfl | hq
        · exact dta.symm
        rcases List.mem_cons.mp hq with rfl | hq
        · exact da.symm
        rcases List.mem_cons.mp hq with rfl | hq
        · exact dl.symm
        rcases List.mem_cons.mp hq with rfl | hq
        · exact ds
        · exact ne1 q hq
      walk_at "my steps"
      rename Fr _ _ _ _ => F13
      rename News _ _ _ _ => N13
      refine ⟨Spc.call (roll_spec _ die sl k 4 t _ n hk (by decide)) hh (by omega) (by omega) F13 N13 X T ((ta, listOf (List.toArray vv) nvt) :: (af, listOf (List.toArray (rs.map Value.ref)) n1) :: (lo, listOf (List.toArray (ls.map Value.bool)) n2) :: (sl, listOf (List.toArray ws) 0) :: bl) (by walk_at "my sub") (by walk_at "my sub") (fun q hq q' hq' => by rw [List.mem_singleton.mp hq']; exact hoffd q hq) (fun g' _ hkk => hDie g' (hkk (sl, _) (.tail _ (.tail _ (.tail _ (.head _)))))) ?_⟩
      rintro g4 r nw hg4 tkg4 - - F14 N14 - - ⟨⟨t4, rfl⟩, v, tv, rfl, hv0, hv1⟩
      simp only [List.cons_append, List.nil_append] at N14
      obtain ⟨vn, rfl⟩ : ∃ vn : Nat, v = vn := ⟨v.toNat, by omega⟩
      walk_at "my steps"
      rename Fr _ _ _ _ => F15
      rename News _ _ _ _ => N15
      rw [show (1 : Int) + (vn : Int) = ((vn + 1 : Nat) : Int) by omega] at F15
      obtain ⟨D, hDv⟩ : ∃ D, D = vn + 1 := ⟨_, rfl⟩
      rw [← hDv] at F15
      have hD4 : D ≤ 4 := by omega
      refine ⟨for_any (by assumption) rfl rfl ?_⟩
      walk_at "my steps"
      rename Fr _ _ _ _ => F16
      rename News _ _ _ _ => N16
      refine ⟨Spc.call (roll_spec _ die sl (k + 1) 3 t4 _ n (by omega) (by decide)) hh (by omega) (by omega) F16 N16 X T ((ta, listOf (List.toArray vv) nvt) :: (af, listOf (List.toArray (rs.map Value.ref)) n1) :: (lo, listOf (List.toArray (ls.map Value.bool)) n2) :: (sl, listOf (List.toArray ws) 0) :: bl) (by walk_at "my sub") (by walk_at "my sub") (fun q hq q' hq' => by rw [List.mem_singleton.mp hq']; exact hoffd q hq) (fun g' _ hkk => hDie g' (hkk (sl, _) (.tail _ (.tail _ (.tail _ (.head _)))))) ?_⟩
      rintro g5 r nw hg5 tkg5 - - F17 N17 - - ⟨⟨t5, rfl⟩, v1, tv1, rfl, hv10, hv11⟩
      simp only [List.cons_append, List.nil_append] at N17
      walk_at "my steps"
      rename Fr _ _ _ _ => F18
      rename News _ _ _ _ => N18
      refine ⟨Spc.call (roll_spec _ die sl (k + 1 + 1) 3 t5 _ n (by omega) (by decide)) hh (by omega) (by omega) F18 N18 X T ((ta, listOf (List.toArray vv) nvt) :: (af, listOf (List.toArray (rs.map Value.ref)) n1) :: (lo, listOf (List.toArray (ls.map Value.bool)) n2) :: (sl, listOf (List.toArray ws) 0) :: bl) (by walk_at "my sub") (by walk_at "my sub") (fun q hq q' hq' => by rw [List.mem_singleton.mp hq']; exact hoffd q hq) (fun g' _ hkk => hDie g' (hkk (sl, _) (.tail _ (.tail _ (.tail _ (.head _)))))) ?_⟩
      rintro g6 r nw hg6 tkg6 - - F19 N19 - - ⟨⟨t6, rfl⟩, v2, tv2, rfl, hv20, hv21⟩
      simp only [List.cons_append, List.nil_append] at N19
      walk_at "my steps"
      rename Fr _ _ _ _ => F20
      rename News _ _ _ _ => N20
      refine ⟨for_tuple hh F20 N20 (News.isTup N20 (.head _)) (N20 _ (.head _)).2.1 (LawJ2 ((ta, listOf (List.toArray vv) nvt) :: (af, listOf (List.toArray (rs.map Value.ref)) n1) :: (lo, listOf (List.toArray (ls.map Value.bool)) n2) :: bl) af lo ta D) _ _ (by walk_at "my ps") (by walk_at "my sub") ⟨_, rfl, rfl⟩ ?turn2 ?done2⟩
      case done2 =>
        rintro ps led u h21 tk21 ⟨td, rfl, rfl⟩ F21 N21
        walk_at "my steps"
        exact ⟨rfl, _, _, rfl, F21.keep⟩
      case turn2 =>
        rintro i v ps led u h21 tk21 own TQ hTQ hv ⟨td, rfl, rfl⟩ F21 N21 hoff21
        simp only [List.cons_append] at N21
        obtain ⟨rr, tr, rfl, hr6⟩ : ∃ (rr : Nat) (tr : Tok), v = .int (rr : Int) tr ∧ rr < 6 := by
          rcases i with _ | _ | i
          · have hv' : some (Value.int v1 tv1) = some v := hv
            exact ⟨v1.toNat, _, by rw [Int.toNat_of_nonneg hv10]; exact (Option.some.inj hv').symm, by omega⟩
          · have hv' : some (Value.int (3 + v2) _) = some v := hv
            exact ⟨(3 + v2).toNat, _, by rw [Int.toNat_of_nonneg (by omega)]; exact (Option.some.inj hv').symm, by omega⟩
          · simp at hv
        obtain ⟨pl, hpl⟩ : ∃ pl, vals[rr]? = some pl := ⟨vals[rr]'(by omega), by simp⟩
        have hpl' : vals.getD rr 0 = pl := by rw [List.getD_eq_getElem?_getD, hpl]; rfl
        obtain ⟨tpl, hvp⟩ := hIv.it.get rr pl hpl
        have hvz := hIv.it.length
        have hdu := hdue D (rr : Int) (by omega) (by omega) hD4
        have hge := hvg (rr : Int) (by omega) (by omega)
        simp only [dueOf, Int.toNat_natCast, hpl'] at hdu hge
        obtain ⟨due, hde⟩ : ∃ due : Int, due = if 0 ≤ pl ∧ pl ≤ (D : Int) then if ((rr : Nat) : Int) < 3 then 32000 - ((0 : Nat) : Int) - pl else pl + ((0 : Nat) : Int) - 32000 else 0 := ⟨_, rfl⟩
        rw [← hde] at hdu
        have hdb : -32000 ≤ due ∧ due ≤ 32000 := by
          rw [hde]
          split
          · split <;> omega
          · omega
        walk_at "my steps"
        rename Fr _ _ _ _ => F22
        rename News _ _ _ _ => N22
        refine ⟨wpAny_mono (Q := LDue g L af lo ta D td rr tr ((ta, listOf (List.toArray vv) nvt) :: (af, listOf (List.toArray (rs.map Value.ref)) n1) :: (lo, listOf (List.toArray (ls.map Value.bool)) n2) :: (bl ++ own)) due S) (E := fun _ _ => False) ?first ?rest (fun _ _ e => e.elim)⟩
        case first =>
          walk_at "my steps"
          · rename (rr : Int) < 3 => c1
            rename (0 : Int) ≤ pl => c2
            rename pl ≤ (D : Int) => c3
            rename Fr _ _ _ _ => F23
            rename News _ _ _ _ => N23
            refine ⟨Spc.call (mate_in_spec _ _ _) hh (by omega) (by omega) F23 N23 X T _ (fun _ h => nomatch h) sub_self (fun _ _ _ h => nomatch h) (fun _ _ _ => trivial) ?_⟩
            rintro g7 r nw h24 tk24 - - F24 N24 - - ⟨rfl, t24, rfl⟩
            simp only [List.nil_append] at N24
            have e : due = 32000 - pl := by rw [hde, if_pos ⟨c2, c3⟩, if_pos c1]; omega
            walk_at "my steps"
            rw [e]
            exact LDue.of (by assumption) (by assumption) (by walk_at "my sub") (by walk_at "my ps")
          · rename ¬ (rr : Int) < 3 => c1
            rename (0 : Int) ≤ pl => c2
            rename pl ≤ (D : Int) => c3
            rename Fr _ _ _ _ => F23
            rename News _ _ _ _ => N23
            refine ⟨Spc.call (mated_in_spec _ _ _) hh (by omega) (by omega) F23 N23 X T _ (fun _ h => nomatch h) sub_self (fun _ _ _ h => nomatch h) (fun _ _ _ => trivial) ?_⟩
            rintro g7 r nw h24 tk24 - - F24 N24 - - ⟨rfl, t24, rfl⟩
            simp only [List.nil_append] at N24
            have e : due = pl - 32000 := by rw [hde, if_pos ⟨c2, c3⟩, if_neg c1]; omega
            walk_at "my steps"
            rw [e]
            exact LDue.of (by assumption) (by assumption) (by walk_at "my sub") (by walk_at "my ps")
          · rename ¬ pl ≤ (D : Int) => c3
            have e : due = 0 := by rw [hde, if_neg (fun h => c3 h.2)]
            rw [e]
            exact LDue.of (by assumption) (by assumption) (by walk_at "my sub") (by walk_at "my ps")
          · rename ¬ (0 : Int) ≤ pl => c3
            have e : due = 0 := by rw [hde, if_neg (fun h => c3 h.1)]
            rw [e]
            exact LDue.of (by assumption) (by assumption) (by walk_at "my sub") (by walk_at "my ps")
        case rest =>
          rintro fl s7 ⟨rfl, h25, tk25, m25, t25, rfl, F25, N25⟩
          clear F22 N22
          dsimp only
          walk_at "my steps"
          refine ⟨Spc.call (game_spec _ af lo rows ls (rr : Int) tr D td hR.n hR.l hR.row (by omega) hD4) hh (by omega) (by omega) F25 N25 X T ((ta, listOf (List.toArray vv) nvt) :: (af, listOf (List.toArray (rs.map Value.ref)) n1) :: (lo, listOf (List.toArray (ls.map Value.bool)) n2) :: (bl ++ own)) (fun _ h => nomatch h) sub_self (fun _ _ _ h => nomatch h) (fun g' _ hkk => ⟨rs.map Value.ref, n1, n2, hkk (af, _) (.tail _ (.head _)), hB.rows (fun p hp => hkk p (.tail _ (.tail _ (.tail _ (List.mem_append_left _ hp))))), hkk (lo, _) (.tail _ (.tail _ (.head _)))⟩) ?_⟩
          rintro g8 r nw h26 tk26 - - F26 N26 - hne8 ⟨game, pa, tpa, npa, objs, nodes, kids, cks, drs, rfl, rfl, hob, hG, hTO, hn0⟩
          have hne9 := hne8 _ (.head _)
          clear hne8
          have hoffp : ∀ p ∈ objs ++ ((ta, listOf (List.toArray vv) nvt) :: (af, listOf (List.toArray (rs.map Value.ref)) n1) :: (lo, listOf (List.toArray (ls.map Value.bool)) n2) :: (bl ++ own)), p.1 ≠ pa := fun p hp => (List.mem_append.mp hp).elim (hob p) fun h => (hne9 p h).symm
          simp only [List.cons_append] at N26
          walk_at "my steps"
          rename Fr _ _ _ _ => F30
          rename News _ _ _ _ => N30
          refine ⟨callL (ab_all _ hTO D game pa [] 0 tpa npa (rr : Int) 0 (-32001) 32001 (D : Int) 0 _ _ _ _ _ hn0 (by omega) (by omega) (by omega) (by omega) (by omega) (by simp; omega) rfl rfl) hG hh (by omega) (by omega) F30 N30 X T hoffp ?_⟩
          clear F30 N30
          rintro g30 r nw h30 tk30 F40 N40 ⟨⟨np0, rfl⟩, x0, tx0, rfl, hb0⟩
          rw [hdu] at hb0
          simp only [List.cons_append, List.nil_append] at N40
          rw [hb0.full (by omega) (by omega)]
          clear hb0
          walk_at "my steps"
          · rename due ≠ due => c
            exact absurd rfl c
          · rename Fr _ _ _ _ => F31
            rename News _ _ _ _ => N31
            refine ⟨callL (nm_all _ hTO D game pa [] 0 tpa np0 (rr : Int) 0 (D : Int) 0 _ _ _ hn0 (by omega) (by omega) (by simp; omega) rfl rfl) hG hh (by omega) (by omega) F31 N31 X T hoffp ?_⟩
            clear F31 N31
            rintro g31 r nw h31 tk31 F41 N41 ⟨⟨np1, rfl⟩, tx1, rfl⟩
            rw [hdu]
            simp only [List.cons_append, List.nil_append] at N41
            walk_at "my steps"
            · rename due ≠ due => c
              exact absurd rfl c
            · rename Fr _ _ _ _ => F32
              rename News _ _ _ _ => N32
              refine ⟨callL (ab_all _ hTO D game pa [] 0 tpa np1 (rr : Int) 0 due (due + 1) (D : Int) 0 _ _ _ _ _ hn0 (by omega) (by omega) (by omega) (by omega) (by omega) (by simp; omega) rfl rfl) hG hh (by omega) (by omega) F32 N32 X T hoffp ?_⟩
              clear F32 N32
              rintro g32 r nw h32 tk32 F42 N42 ⟨⟨np2, rfl⟩, x2, tx2, rfl, hb2⟩
              rw [hdu] at hb2
              simp only [List.cons_append, List.nil_append] at N42
              have hl2 := hb2.low
              clear hb2
              walk_at "my steps"
              rename Fr _ _ _ _ => F33
              rename News _ _ _ _ => N33
              refine ⟨callL (ab_all _ hTO D game pa [] 0 tpa np2 (rr : Int) 0 (due - 1) due (D : Int) 0 _ _ _ _ _ hn0 (by omega) (by omega) (by omega) (by omega) (by omega) (by simp; omega) rfl rfl) hG hh (by omega) (by omega) F33 N33 X T hoffp ?_⟩
              clear F33 N33
              rintro g33 r nw h33 tk33 F43 N43 ⟨⟨np3, rfl⟩, x3, tx3, rfl, hb3⟩
              rw [hdu] at hb3
              simp only [List.cons_append, List.nil_append] at N43
              have hl3 := hb3.high
              clear hb3
              walk_at "my steps"
              rename Fr _ _ _ _ => F50
              rename News _ _ _ _ => N50
              refine TEnd.of F50 N50 ⟨td, rfl, rfl⟩ (by walk_at "my ps") ?_ ?_ ?_
              · intro q hq
                simp only [List.mem_cons, List.mem_append, List.not_mem_nil, or_false] at hq ⊢
                rcases hq with h | h | h | h <;> simp [h]
              · intro q hq
                simp [hq]
              · intro q hq
                simp only [List.mem_cons, List.mem_append, List.not_mem_nil, or_false] at hq
                rcases hq with h | h | h | h
                · rw [h]; simp
                · rw [h]; simp
                · rw [h]; simp
                · rw [(hB.mem_addr q h).2]; simp)
end Mine
theorem PySem.Challenge.cw_sm0017_01_holds : PySem.Challenge.rw_sm0017_01.Holds :=
  Mine.holds
