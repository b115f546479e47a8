import PyProof.Rows.All
import Wide.All
import OpenK.AllK
import Wide.FinOn
import Lean
import PySem.Challenge.RW_pb0526_01
set_option Elab.async false
set_option compiler.extract_closed false
set_option rowWalk.seconds 100000

section
open PySem PySem.W PyProof.Rows
set_option maxRecDepth 100000
set_option maxHeartbeats 0
namespace Mine
/-- LeftO by one run of the top from the booted heap, its looks with it -/
theorem left_of_run {p q : Program} {loose : List Str} {Xt : Shared → Bool} {α : Type} {Yf : Shared → α} {Ya : World → α} {N : Nat} {g0 : Bool} {H₀ : Params → Heap} {gs₀ : Array GenState} {d₀ : Drawn} {k₀ : Nat} {m₀ : Nat} {ann : Option Value} {M : Nat}
    (open_ : ∀ w : World, (fencedOpening treeTable p w N).map (fun s => (s.heap, s.gens, s.drawn, s.toks)) = some (H₀ w.params, gs₀, d₀, k₀))
    (size : ∀ w : World, ((H₀ w.params).isNs mainGlobals && gs₀.size == 0, (H₀ w.params).objs.size, (H₀ w.params).nsMap mainGlobals "__annotations__") = (true, m₀, ann))
    (le : Nat.ble M N = true)
    (run2 : ∀ (w : World) (os : OsState), (topRun treeTable p w m₀ ann M ⟨H₀ w.params, gs₀, d₀, k₀, os⟩ (topStub p)).map (fun s => openSeen q loose (importedModules p.main.body) Xt g0 s) = some (openGood q loose))
    (run : ∀ (w : World) (os : OsState), (topRun treeTable p w m₀ ann M ⟨H₀ w.params, gs₀, d₀, k₀, os⟩ (topStub p)).map (fun s => ((staticsOk (importedModules p.main.body) (H₀ w.params) s.heap && namesBound p s.heap && gensDone s && laidKept (H₀ w.params) s.heap), Yf s)) = some (true, Ya w)) : LeftO p q loose Xt Yf Ya N g0 := fun w => by
  obtain ⟨⟨h, gs, d, k, os⟩, e, e'⟩ := Option.map_eq_some_iff.mp (open_ w)
  obtain ⟨rfl, rfl, rfl, rfl⟩ : h = H₀ w.params ∧ gs = gs₀ ∧ d = d₀ ∧ k = k₀ := by simpa using e'
  obtain ⟨z1, z2, z3⟩ : _ ∧ _ ∧ _ := by simpa only [Prod.mk.injEq] using size w
  obtain ⟨s₁, r, e₁⟩ := Option.map_eq_some_iff.mp (run w os)
  obtain ⟨l1, l3⟩ : _ ∧ _ := by simpa only [Prod.mk.injEq] using e₁
  have l2 := run2 w os
  rw [r] at l2
  replace l2 := Option.some.inj l2
  have r := topRun_mono (N - M) _ _ _ _ r
  rw [show M + (N - M) = N by have := Nat.le_of_ble_eq_true le; omega] at r
  have t : topFrom treeTable p w N ⟨H₀ w.params, gs, d, k, os⟩ = some s₁ := by
    unfold topFrom
    dsimp only
    rw [z1, z2, z3, r]
    show (match staticsOk (importedModules p.main.body) (H₀ w.params) s₁.heap && namesBound p s₁.heap && gensDone s₁ && laidKept (H₀ w.params) s₁.heap with | true => _ | false => _) = _
    rw [l1]
  unfold openEnds
  rw [e]
  show (topFrom treeTable p w N _).map _ = _
  rw [t]
  exact congrArg some (Prod.ext l2 l3)

def q1 : Program := view PySem.Challenge.pw_pb0526_01 [0, 2, 3, 4, 5, 6, 8, 9, 10, 11, 12, 13, 14, 15, 17, 18, 19, 20, 21, 23, 24, 26, 27, 29, 30, 31, 32, 33, 34, 35]
/-- what the head looks for at the end of the run -/
theorem run_seen (w : World) (os : OsState) : (PySem.W.Fast.tw14082659384304107361 PySem.W.Fast.tw14364793385576792824 PySem.Challenge.pw_pb0526_01 w 11 (some (.ref 6)) 4606 ⟨boot_heap w.params, Array.mk [], boot_drawn, boot_toks, os⟩ (topStub PySem.Challenge.pw_pb0526_01)).map (fun s => PySem.W.Fast.tw4187177175401517315 q1 [] (importedModules PySem.Challenge.pw_pb0526_01.main.body) (fun s => xlAt q1 [] s && recOk (RowW.records (OpenRow.toRowW PySem.Challenge.rw_pb0526_01.row)) s) true s) = some (openGood q1 []) := by kernel_rfl
theorem left_fast {α : Type} {Yf : Shared → α} {Ya : World → α}
    (run : ∀ (w : World) (os : OsState), (PySem.W.Fast.tw14082659384304107361 PySem.W.Fast.tw14364793385576792824 PySem.Challenge.pw_pb0526_01 w 11 (some (.ref 6)) 4606 ⟨boot_heap w.params, Array.mk [], boot_drawn, boot_toks, os⟩ (topStub PySem.Challenge.pw_pb0526_01)).map
        (fun s => ((staticsOk (importedModules PySem.Challenge.pw_pb0526_01.main.body) (boot_heap w.params) s.heap && namesBound PySem.Challenge.pw_pb0526_01 s.heap && gensDone s && laidKept (boot_heap w.params) s.heap), Yf s)) = some (true, Ya w)) : LeftO PySem.Challenge.pw_pb0526_01 q1 [] (fun s => xlAt q1 [] s && recOk (RowW.records (OpenRow.toRowW PySem.Challenge.rw_pb0526_01.row)) s) Yf Ya 4606 := by
  refine left_of_run (H₀ := boot_heap) (gs₀ := Array.mk []) (d₀ := boot_drawn) (k₀ := boot_toks) (m₀ := 11) (ann := some (.ref 6)) (M := 4606)
    (boot_open (by rfl) (by rfl) (fun s => by rfl)) (fun w => by kernel_rfl) (by rfl) ?_ ?_
  · rw [PySem.W.Fast.te14082659384304107361, PySem.W.Fast.te14364793385576792824, PySem.W.Fast.te4187177175401517315]
    exact run_seen
  · rw [PySem.W.Fast.te14082659384304107361, PySem.W.Fast.te14364793385576792824]
    exact run

theorem said : OpenLaw.wellSaid PySem.Challenge.rw_pb0526_01 = true :=
  (congrFun PySem.W.Fast.te9446332074065402090 PySem.Challenge.rw_pb0526_01).trans (by kernel_rfl)
local macro_rules | `(tactic| o_law) => `(tactic| refine holds_law said fun said => ?_)
local macro_rules | `(tactic| o_head $H) => `(tactic| (
  refine holds_open (q := q1) (loose := []) (Xt := fun s => xlAt q1 [] s && recOk (RowW.records (OpenRow.toRowW PySem.Challenge.rw_pb0526_01.row)) s) (XP := XL q1 []) (Yf := Hook.obs $H) (Ya := Hook.val $H) (YP := Hook.says $H) (N := 4606) ?hl (Hook.of $H) (Hook.keeps $H) (fun s e => xl_of s (Bool.and_eq_true_iff.mp e).1) XL.keeps (by rfl) (by rfl) (by rfl) (fun s e => recFacts_of (Bool.and_eq_true_iff.mp e).2) (by rfl) (by first | assumption | decide +kernel) (by decide +kernel) ⟨rfl, rfl, rfl, rfl, rfl, by decide +kernel⟩ ?hw ?hc
  (case hl => exact left_fast fun w os => by kernel_rfl)))
open_top hd for PySem.Challenge.rw_pb0526_01
end Mine
end

section
open PySem PySem.W PyProof.Rows PySem.Calls
set_option maxRecDepth 100000
set_option maxHeartbeats 8000000
namespace Mine

/-- the walk is to stop here -/
def Stop (P : Prop) : Prop := P
theorem Stop.out {P : Prop} (h : Stop P) : P := h
/-- no address of the one list is one of the other -/
def Apart (rest mine : List (Addr × Obj)) : Prop := ∀ q ∈ mine, ∀ p ∈ rest, p.1 ≠ q.1
theorem Apart.nil {rest : List (Addr × Obj)} : Apart rest [] := fun _ h => nomatch h
theorem Apart.cons {rest mine : List (Addr × Obj)} {a : Addr} {o : Obj} (h : ∀ p ∈ rest, p.1 ≠ a) (t : Apart rest mine) : Apart rest ((a, o) :: mine) := fun q hq => by
  cases hq with
  | head => exact h
  | tail _ hq => exact t q hq

/-- a body's end: the frame, the ledger, what holds of both -/
def LeafQ (g : Heap) (L' : Addr) (s₁ : Shared) (Post : Value → List (Addr × Obj) → Prop) (v : Value) (s' : Shared) : Prop :=
  ∃ m' news', Fr g L' s'.heap m' ∧ News g L' s'.heap news' ∧ s' = { s₁ with heap := s'.heap, toks := s'.toks } ∧ Post v news'

theorem LeafQ.of {g : Heap} {L' : Addr} {s₁ : Shared} {Post : Value → List (Addr × Obj) → Prop} {v : Value} {h' : Heap} {tk' : Nat} {m' : Str → Option Value} {news post : List (Addr × Obj)}
    (F : Fr g L' h' m') (N : News g L' h' news) (hs : ∀ p ∈ post, p ∈ news) (hp : Post v post) : LeafQ g L' s₁ Post v { s₁ with heap := h', toks := tk' } :=
  ⟨m', post, F, fun p hp => N p (hs p hp), rfl, hp⟩
theorem sub_nil {l : List (Addr × Obj)} : ∀ p ∈ ([] : List (Addr × Obj)), p ∈ l := fun _ h => nomatch h
theorem sub_cons {q : Addr × Obj} {r l : List (Addr × Obj)} (h : q ∈ l) (t : ∀ p ∈ r, p ∈ l) : ∀ p ∈ q :: r, p ∈ l := fun p hp => by
  cases hp with
  | head => exact h
  | tail _ hp => exact t p hp

theorem LeafQ.fin {g : Heap} {L' : Addr} {s₁ : Shared} {Post : Value → List (Addr × Obj) → Prop} {v : Value} {h' : Heap} {tk' : Nat} {m' : Str → Option Value} {news post : List (Addr × Obj)}
    (F : Fr g L' h' m') (N : News g L' h' news) (hp : Post v post) (hs : ∀ p ∈ post, p ∈ news) : LeafQ g L' s₁ Post v { s₁ with heap := h', toks := tk' } := .of F N hs hp
section
variable {prog : Program} {w : World} {A₀ A : Around} {s : Shared} {base h₀ : Heap} {outer : List Env} {L : Addr} {m : Str → Option Value} {env : Env} {news mine rest : List (Addr × Obj)}
  {Q E : Value → Shared → Prop} {name qual : Str} {params : Arguments} {body : List Stmt} {scope : Scope} {dV kV doc pm cdv ct oc : Value} {an od : Option Addr} {osl : Array (Option Value)} {f : Addr} {vs : List Value} {binds : List (Str × Value)}
  {K : Frag} {p : Program} {loose : List Str} {mean : ExcName → Option Value} {mg mb : Str → Option Value} {Post : Value → List (Addr × Obj) → Prop}

theorem frame_back (B : Below A₀ base outer h₀) (F : Fr h₀ L s.heap m) (N : News h₀ L s.heap news) (hsub : ∀ p ∈ mine, p ∈ news) (hrs : ∀ p ∈ rest, p ∈ news) (Ap : Apart rest mine)
    (hA : A.frames = some (env :: outer)) (hf : env.frame = some L) (hke : env.scope.kind = .function)
    (ret : ∀ v post h' tk', Fr h₀ L h' m → News h₀ L h' (post ++ rest) → Apart rest post → Post v post → Q v { s with heap := h', toks := tk' })
    {h₁ : Heap} {tk : Nat} {L' : Addr} (v : Value) (s' : Shared) (hl : LeafQ (hideAll s.heap (mine.map (·.1))) L' { s with heap := h₁, toks := tk } Post v s') : Q v s' := by
  have Nm : News h₀ L s.heap mine := fun p hp => N p (hsub p hp)
  obtain ⟨m', news', F', N', hs, hp⟩ := hl
  have hrest : ∀ p ∈ rest, (hideAll s.heap (mine.map (·.1))).get? p.1 = some p.2 := fun p hp => hideAll_get _ (N p (hrs p hp)).1 fun q => by
    obtain ⟨q', hq', e⟩ := List.mem_map.mp q
    exact Ap q' hq' p hp e.symm
  -- the frame again, by LeaveK's own way, the ledger with it
  have key : Fr h₀ L s'.heap m ∧ News h₀ L s'.heap news' := by
    have := (groundX (R := fun r s' => ∀ N₁, N₁ = news' → Fr h₀ L s'.heap m ∧ News h₀ L s'.heap N₁) B F Nm hA hf hke).2.2.2 v s' ⟨L', m', news', F', N', fun a b N₁ e => e ▸ ⟨a, b⟩⟩
    exact this _ rfl
  rw [hs]
  refine ret v news' s'.heap s'.toks key.1 (fun p hp' => ?_) (fun q hq p hp' e => ?_) hp
  · rcases List.mem_append.mp hp' with hq | hq
    · exact key.2 p hq
    · exact ⟨F'.keep _ _ (hrest p hq), (N p (hrs p hq)).2⟩
  · have h1 := (N' q hq).2.2
    rw [← e, hrest p hp'] at h1
    cases h1

theorem fr_call (B : Below A₀ base outer h₀) (F : Fr h₀ L s.heap m) (X₀ : K.In h₀) (N : News h₀ L s.heap news) (hsub : ∀ p ∈ mine, p ∈ news) (hrs : ∀ p ∈ rest, p ∈ news) (Ap : Apart rest mine)
    (T : Top p loose mean mg mb h₀) (hA : A.frames = some (env :: outer)) (hf : env.frame = some L) (hke : env.scope.kind = .function)
    (ho : K.lookup f = some ⟨oc, od, .func (fnOf name qual params body scope dV kV doc pm an cdv ct), osl⟩) (hcd : codeIn K cdv qual = true) (hroom : A.depth < recursionLimit)
    (hbind : BindsTo s (fnOf name qual params body scope dV kV doc pm an cdv ct) ⟨vs, []⟩ binds) (hloc : ∀ y ∈ binds, scope.names.lookup y.1 = some .local)
    (ret : ∀ v post h' tk', Fr h₀ L h' m → News h₀ L h' (post ++ rest) → Apart rest post → Post v post → Q v { s with heap := h', toks := tk' })
    (h : ∀ g L' h₁ tk₁, h₀.StaysIn g → (∀ p ∈ rest, g.get? p.1 = some p.2) → Fr g L' h₁ (fun y => binds.reverse.lookup y) → News g L' h₁ mine → Below A base (env :: outer) g → K.In g → Top p loose mean mg mb g →
      wpAny (model prog w) (A.deeper (envOf qual scope L' f cdv)) (execs body (envOf qual scope L' f cdv))
        (fun fl s' => LeafQ g L' { s with heap := h₁, toks := tk₁ } Post (match fl with | .ret v => v | _ => .none) s') (fun _ _ => False) { s with heap := h₁, toks := tk₁ })
    (hco : scope.isCoroutine = false) (hgen : scope.isGenerator = false) (hk : scope.kind = .function) (hcell : ∀ x ∈ scope.names, x.2 ≠ .cell) :
    wpAny (model prog w) A (call (.ref f) vs) Q E s := by
  have Nm : News h₀ L s.heap mine := fun p hp => N p (hsub p hp)
  obtain ⟨FG, BG, st, _⟩ := groundX (R := fun _ _ => True) B F Nm hA hf hke
  have hrest : ∀ p ∈ rest, (hideAll s.heap (mine.map (·.1))).get? p.1 = some p.2 := fun p hp => hideAll_get _ (N p (hrs p hp)).1 fun q => by
    obtain ⟨q', hq', e⟩ := List.mem_map.mp q
    exact Ap q' hq' p hp e.symm
  refine wpAny_call (codeAny_call_def (fd := fnOf name qual params body scope dV kV doc pm an cdv ct) (body := body) (binds := binds) hroom ((X₀.keeps F.keep) _ _ ho) rfl (T.nolimit.keeps F.keep) (codeRec_of (X₀.keeps F.keep) hcd) rfl hbind hcell hloc (fun h₁ hns hk₁ => ?_) hco hgen hk)
  exact wpAny_mono (h _ s.heap.objs.size h₁ _ st hrest ⟨hns, fun b o e => hk₁ b o (of_hideAll _ e), Nat.le_of_eq (hideAll_size _ _)⟩
    (fun p hp => ⟨hk₁ _ _ (Nm p hp).1, Nat.ne_of_lt (Heap.lt_size (Nm p hp).1), hideAll_none _ (List.mem_map_of_mem hp)⟩) BG (X₀.keeps st) (T.keeps st)) (fun fl s' hl => frame_back B F N hsub hrs Ap hA hf hke ret _ _ hl) fun _ _ y => y.elim
end

/-- what a call of a def does: mine is its own part of the ledger, Ro what it reads of the rest -/
def Spec (w : World) (f : Addr) (D U : Nat) (vs : List Value) (mine : List (Addr × Obj)) (Ro : Heap → Prop) (Post : Value → List (Addr × Obj) → Prop) : Prop :=
  ∀ (dp un : Nat) (gd : Option (List Code)) (cn : Str) (cs : Scope) (a : Addr) (ccd : Value) (cl : List (Str × Addr)) (outer : List Env) (A₀ : Around) (base h₀ : Heap) (L : Addr) (m : Str → Option Value) (s : Shared) (Q E : Value → Shared → Prop)
    (mean : ExcName → Option Value) (mg mb : Str → Option Value) (news rest : List (Addr × Obj)),
    Below A₀ base outer h₀ → Fr h₀ L s.heap m → (hd.heap_1 w.params).In h₀ → News h₀ L s.heap news → (∀ p ∈ mine, p ∈ news) → (∀ p ∈ rest, p ∈ news) → Apart rest mine →
    (∀ g : Heap, h₀.StaysIn g → (∀ p ∈ rest, g.get? p.1 = some p.2) → Ro g) → Top q1 (looseW q1 []) mean mg mb h₀ → cs.kind = .function → dp + D < recursionLimit → un + U < cLine →
    (∀ v post h' tk', Fr h₀ L h' m → News h₀ L h' (post ++ rest) → Apart rest post → Post v post → Q v { s with heap := h', toks := tk' }) →
    wpAny (model PySem.Challenge.rw_pb0526_01.row.prog w) (ktrTop dp un gd cn cs L a ccd cl outer) (call (.ref f) vs) Q E s


/-- one entry taken out of the ledger -/
inductive Pick (a : Addr) (o : Obj) : List (Addr × Obj) → List (Addr × Obj) → Prop
  | head {l : List (Addr × Obj)} : Pick a o ((a, o) :: l) l
  | tail {q : Addr × Obj} {l l' : List (Addr × Obj)} (h : Pick a o l l') : Pick a o (q :: l) (q :: l')
  | skip {m l l' : List (Addr × Obj)} (h : Pick a o l l') : Pick a o (m ++ l) (m ++ l')
theorem Pick.mem {a : Addr} {o : Obj} {l l' : List (Addr × Obj)} (h : Pick a o l l') : (a, o) ∈ l ∧ ∀ p ∈ l', p ∈ l := by
  induction h with
  | head => exact ⟨.head _, fun p hp => .tail _ hp⟩
  | tail _ ih =>
    refine ⟨.tail _ ih.1, fun p hp => ?_⟩
    cases hp with
    | head => exact .head _
    | tail _ hp => exact .tail _ (ih.2 p hp)
  | skip _ ih => exact ⟨List.mem_append_right _ ih.1, fun p hp => (List.mem_append.mp hp).elim (List.mem_append_left _) fun hp => List.mem_append_right _ (ih.2 p hp)⟩
/-- a letter's entries taken out of the ledger -/
inductive PickR (R : List (Addr × Obj)) : List (Addr × Obj) → List (Addr × Obj) → Prop
  | head : PickR R R []
  | tail {q : Addr × Obj} {l l' : List (Addr × Obj)} (h : PickR R l l') : PickR R (q :: l) (q :: l')
theorem PickR.mem {R l l' : List (Addr × Obj)} (h : PickR R l l') : (∀ p ∈ R, p ∈ l) ∧ ∀ p ∈ l', p ∈ l := by
  induction h with
  | head => exact ⟨fun _ h => h, fun _ h => nomatch h⟩
  | tail _ ih =>
    refine ⟨fun p hp => .tail _ (ih.1 p hp), fun p hp => ?_⟩
    cases hp with
    | head => exact .head _
    | tail _ hp => exact .tail _ (ih.2 p hp)
/-- several entries, one after the other -/
inductive Picks : List (Addr × Obj) → List (Addr × Obj) → List (Addr × Obj) → Prop
  | nil {l : List (Addr × Obj)} : Picks [] l l
  | cons {a : Addr} {o : Obj} {m l l' r : List (Addr × Obj)} (h : Pick a o l l') (t : Picks m l' r) : Picks ((a, o) :: m) l r
  | letter {R l r : List (Addr × Obj)} (h : PickR R l r) : Picks R l r
theorem Picks.mem {m l r : List (Addr × Obj)} (h : Picks m l r) : (∀ p ∈ m, p ∈ l) ∧ ∀ p ∈ r, p ∈ l := by
  induction h with
  | nil => exact ⟨fun _ h => (nomatch h), fun _ h => h⟩
  | letter h => exact h.mem
  | cons h _ ih =>
    refine ⟨fun p hp => ?_, fun p hp => h.mem.2 p (ih.2 p hp)⟩
    cases hp with
    | head => exact h.mem.1
    | tail _ hp => exact h.mem.2 p (ih.1 p hp)
theorem Apart.none {R : List (Addr × Obj)} : Apart [] R := fun _ _ _ h => nomatch h
theorem Apart.sw {rest R : List (Addr × Obj)} {a : Addr} {o : Obj} (h : ∀ p ∈ R, p.1 ≠ a) (t : Apart rest R) : Apart ((a, o) :: rest) R := fun q hq p hp => by
  cases hp with
  | head => exact (h q hq).symm
  | tail _ hp => exact t q hq p hp
theorem News.swapR {h₀ h : Heap} {L : Addr} {x : Addr × Obj} {R rest : List (Addr × Obj)} (N : News h₀ L h (x :: R ++ rest)) : News h₀ L h (x :: (rest ++ R)) := fun p hp => N p (by
  simp only [List.cons_append, List.mem_cons, List.mem_append] at hp ⊢
  rcases hp with h | h | h
  · exact .inl h
  · exact .inr (.inr h)
  · exact .inr (.inl h))
theorem apart_nil {rest : List (Addr × Obj)} : Apart rest [] ↔ True := ⟨fun _ => trivial, fun _ => Apart.nil⟩
theorem apart_cons {rest post : List (Addr × Obj)} {a : Addr} {o : Obj} : Apart rest ((a, o) :: post) ↔ (∀ p ∈ rest, p.1 ≠ a) ∧ Apart rest post :=
  ⟨fun h => ⟨h (a, o) (.head _), fun q hq => h q (.tail _ hq)⟩, fun h => .cons h.1 h.2⟩
theorem all_cons {a : Addr} {o : Obj} {b : Addr} {l : List (Addr × Obj)} : (∀ p ∈ (a, o) :: l, p.1 ≠ b) ↔ a ≠ b ∧ ∀ p ∈ l, p.1 ≠ b := List.forall_mem_cons
theorem all_nil {b : Addr} : (∀ p ∈ ([] : List (Addr × Obj)), p.1 ≠ b) ↔ True := ⟨fun _ => trivial, fun _ _ h => nomatch h⟩
theorem all_append {b : Addr} {l r : List (Addr × Obj)} : (∀ p ∈ l ++ r, p.1 ≠ b) ↔ (∀ p ∈ l, p.1 ≠ b) ∧ ∀ p ∈ r, p.1 ≠ b := List.forall_mem_append

/-- a contract used -/
theorem Spec.use {w : World} {f : Addr} {D U : Nat} {vs : List Value} {mine : List (Addr × Obj)} {Ro : Heap → Prop} {Post : Value → List (Addr × Obj) → Prop} (H : Spec w f D U vs mine Ro Post)
    {dp un : Nat} {gd : Option (List Code)} {cn : Str} {cs : Scope} {a : Addr} {ccd : Value} {cl : List (Str × Addr)} {outer : List Env} {A₀ : Around} {base h₀ : Heap} {L : Addr} {m : Str → Option Value} {s : Shared} {Q E : Value → Shared → Prop}
    {mean : ExcName → Option Value} {mg mb : Str → Option Value} {news rest : List (Addr × Obj)}
    (hB : Below A₀ base outer h₀) (hF : Fr h₀ L s.heap m) (hX : (hd.heap_1 w.params).In h₀) (hN : News h₀ L s.heap news) (hP : Picks mine news rest) (hA : Apart rest mine)
    (hR : ∀ g : Heap, h₀.StaysIn g → (∀ p ∈ rest, g.get? p.1 = some p.2) → Ro g) (hT : Top q1 (looseW q1 []) mean mg mb h₀) (hk : cs.kind = .function) (hd : dp + D < recursionLimit) (hu : un + U < cLine)
    (ret : ∀ v post h' tk', Fr h₀ L h' m → News h₀ L h' (post ++ rest) → Apart rest post → Post v post → Q v { s with heap := h', toks := tk' }) :
    wpAny (model PySem.Challenge.rw_pb0526_01.row.prog w) (ktrTop dp un gd cn cs L a ccd cl outer) (call (.ref f) vs) Q E s :=
  H dp un gd cn cs a ccd cl outer A₀ base h₀ L m s Q E mean mg mb news rest hB hF hX hN hP.mem.1 hP.mem.2 hA hR hT hk hd hu ret

theorem gen_P {P : Prop} (h : ∀ G : Prop, (P → G) → G) : P := h P id
theorem gen_Q {α : Type} {M : Model} {A : Around} {t : Sem α} {Q : α → Shared → Prop} {E : Value → Shared → Prop} {s : Shared} (h : ∀ Q0 : α → Shared → Prop, (∀ a s, Q a s → Q0 a s) → wpAny M A t Q0 E s) : wpAny M A t Q E s := h Q fun _ _ x => x
/-- a contract used; what comes back is opened under a letter -/
theorem Spec.useG {w : World} {f : Addr} {D U : Nat} {vs : List Value} {mine : List (Addr × Obj)} {Ro : Heap → Prop} {Post : Value → List (Addr × Obj) → Prop} (H : Spec w f D U vs mine Ro Post)
    {dp un : Nat} {gd : Option (List Code)} {cn : Str} {cs : Scope} {a : Addr} {ccd : Value} {cl : List (Str × Addr)} {outer : List Env} {A₀ : Around} {base h₀ : Heap} {L : Addr} {m : Str → Option Value} {s : Shared} {Q E : Value → Shared → Prop}
    {mean : ExcName → Option Value} {mg mb : Str → Option Value} {news rest : List (Addr × Obj)}
    (hB : Below A₀ base outer h₀) (hF : Fr h₀ L s.heap m) (hX : (hd.heap_1 w.params).In h₀) (hN : News h₀ L s.heap news) (hP : Picks mine news rest) (hA : Apart rest mine)
    (hR : ∀ g : Heap, h₀.StaysIn g → (∀ p ∈ rest, g.get? p.1 = some p.2) → Ro g) (hT : Top q1 (looseW q1 []) mean mg mb h₀) (hk : cs.kind = .function) (hd : dp + D < recursionLimit) (hu : un + U < cLine)
    (ret : ∀ v post h' tk', Fr h₀ L h' m → News h₀ L h' (post ++ rest) → Apart rest post → Post v post → ∀ G : Prop, (Q v { s with heap := h', toks := tk' } → G) → G) :
    wpAny (model PySem.Challenge.rw_pb0526_01.row.prog w) (ktrTop dp un gd cn cs L a ccd cl outer) (call (.ref f) vs) Q E s :=
  H.use hB hF hX hN hP hA hR hT hk hd hu fun v post h' tk' F N A P => ret v post h' tk' F N A P _ id
theorem ne_lt {l : List (Addr × Obj)} {x y : Addr} {o : Obj} (h : ∀ p ∈ l, p.1 < y) (m : (x, o) ∈ l) : x ≠ y := Nat.ne_of_lt (h _ m)
theorem ne_lt2 {l : List (Addr × Obj)} {x d y : Addr} {o : Obj} (h : ∀ p ∈ l, p.1 < d) (k : @LT.lt Nat _ d y) (m : (x, o) ∈ l) : x ≠ y := Nat.ne_of_lt (Nat.lt_trans (h _ m) k)
theorem ne_lt1 {x y : Addr} (k : @LT.lt Nat _ x y) : x ≠ y := Nat.ne_of_lt k
theorem all_lt {l R : List (Addr × Obj)} {y : Addr} (h : ∀ p ∈ l, p.1 < y) (s : ∀ p ∈ R, p ∈ l) : ∀ p ∈ R, p.1 ≠ y := fun p hp => Nat.ne_of_lt (h p (s p hp))
theorem all_n {y : Addr} : ∀ p ∈ ([] : List (Addr × Obj)), p.1 ≠ y := fun _ h => nomatch h
theorem all_c {l : List (Addr × Obj)} {a b : Addr} {o : Obj} (h : a ≠ b) (t : ∀ p ∈ l, p.1 ≠ b) : ∀ p ∈ (a, o) :: l, p.1 ≠ b := List.forall_mem_cons.mpr ⟨h, t⟩
theorem lt_all {l : List (Addr × Obj)} {x y : Addr} {o : Obj} (h : ∀ p ∈ l, p.1 < y) (m : (x, o) ∈ l) : @LT.lt Nat _ x y := h _ m
theorem ne_c1 {l : List (Addr × Obj)} {x y : Addr} {o : Obj} (h : ∀ p ∈ l, p.1 < y) (m : (x, o) ∈ l) : x ≠ y + 1 := Nat.ne_of_lt (Nat.lt_of_lt_of_le (h _ m) (Nat.le_add_right y 1))
theorem ne_c2 {l : List (Addr × Obj)} {x y : Addr} {o : Obj} (h : ∀ p ∈ l, p.1 < y) (m : (x, o) ∈ l) : x ≠ y + 1 + 1 := Nat.ne_of_lt (Nat.lt_of_lt_of_le (h _ m) (Nat.le_add_right y 2))
theorem ne_c3 {l : List (Addr × Obj)} {x y : Addr} {o : Obj} (h : ∀ p ∈ l, p.1 < y) (m : (x, o) ∈ l) : x ≠ y + 1 + 1 + 1 := Nat.ne_of_lt (Nat.lt_of_lt_of_le (h _ m) (Nat.le_add_right y 3))
theorem ne_mem {l : List (Addr × Obj)} {x y : Addr} {o : Obj} (h : ∀ p ∈ l, p.1 ≠ y) (m : (x, o) ∈ l) : x ≠ y := h _ m
theorem gen_QE {α : Type} {M : Model} {A : Around} {t : Sem α} {Q : α → Shared → Prop} {E : Value → Shared → Prop} {s : Shared} (h : ∀ (Q0 : α → Shared → Prop) (E0 : Value → Shared → Prop), (∀ a s, Q a s → Q0 a s) → wpAny M A t Q0 E0 s) : wpAny M A t Q E s := h Q E fun _ _ x => x
theorem neA {a b : Addr} (h : a ≠ b) : a ≠ b := h
theorem sub_refl {l : List (Addr × Obj)} : ∀ p ∈ l, p ∈ l := fun _ h => h
theorem sub_keep {q : Addr × Obj} {r l : List (Addr × Obj)} (h : ∀ p ∈ r, p ∈ l) : ∀ p ∈ q :: r, p ∈ q :: l := fun p hp => by
  cases hp with
  | head => exact .head _
  | tail _ hp => exact .tail _ (h p hp)
theorem sub_skip {q : Addr × Obj} {r l : List (Addr × Obj)} (h : ∀ p ∈ r, p ∈ l) : ∀ p ∈ r, p ∈ q :: l := fun p hp => .tail _ (h p hp)
theorem room2 {a j k D R : Nat} (h : a + D < R) (e : Nat.ble (j + k) D = true) : a + j + k < R := Nat.lt_of_le_of_lt (by have := Nat.le_of_ble_eq_true e; omega) h
theorem room1 {a k D R : Nat} (h : a + D < R) (e : Nat.ble k D = true) : a + k < R := Nat.lt_of_le_of_lt (Nat.add_le_add_left (Nat.le_of_ble_eq_true e) a) h
theorem room0 {a D R : Nat} (h : a + D < R) : a < R := Nat.lt_of_le_of_lt (Nat.le_add_right a D) h

theorem units_under_make {A : Around} {C : Addr} {pos : List Value} {kw : List (Str × Value)} : (A.under (.builtin "type.__call__" ⟨.ref C :: pos, kw⟩)).units = A.units + 1 := by
  show A.units + _ = A.units + 1
  rfl

/-! the objects' forms -/
abbrev ent (w : World) (x : String) (t : Tok) (v : Value) : DictEntry := ⟨PyData.keyHash w.params (Str.ofString x), .str (Str.ofString x) t, v⟩
/-- a Space's dict: T the keys' marks -/
abbrev spD (w : World) (T : Nat → Tok) (nm nn st la ak le lt rc ls lm fu un wn hn ec gn : Value) : Obj :=
  dictOf [ent w "name" (T 0) nm, ent w "next_number" (T 1) nn, ent w "sent" (T 2) st, ent w "largest_acked" (T 3) la, ent w "acked" (T 4) ak, ent w "last_eliciting_time" (T 5) le, ent w "loss_time" (T 6) lt, ent w "received" (T 7) rc,
    ent w "largest_seen" (T 8) ls, ent w "largest_time" (T 9) lm, ent w "first_unacked" (T 10) fu, ent w "unacked" (T 11) un, ent w "wants_now" (T 12) wn, ent w "has_new" (T 13) hn, ent w "ecn" (T 14) ec, ent w "is_gone" (T 15) gn] 16
/-- a NewReno's dict -/
abbrev ctD (w : World) (T : Nat → Tok) (dg wi th rc fl cr : Value) : Obj :=
  dictOf [ent w "datagram" (T 0) dg, ent w "window" (T 1) wi, ent w "threshold" (T 2) th, ent w "recovery_at" (T 3) rc, ent w "in_flight" (T 4) fl, ent w "credit" (T 5) cr] 6
/-- a SentPacket's dict -/
abbrev pkD (w : World) (k0 k1 k2 k3 k4 k5 : Tok) (nu ti sz fr el fl : Value) : Obj :=
  dictOf [ent w "number" k0 nu, ent w "time" k1 ti, ent w "size" k2 sz, ent w "frames" k3 fr, ent w "is_eliciting" k4 el, ent w "in_flight" k5 fl] 6
/-- a packet that is out: its number, its time, its size; the addresses of its object, of its dict, of the law's own pair -/
structure Pk where
  n : Int
  t : Int
  z : Int
  a : Addr
  d : Addr
  u : Addr
/-- the packet's objects stand -/
def PkAt (w : World) (g : Heap) (p : Pk) : Prop := g.get? p.a = some (instObj 204 p.d) ∧ ∃ k0 k1 k2 k3 k4 k5 tn tt tz fr, g.get? p.d = some (pkD w k0 k1 k2 k3 k4 k5 (.int p.n tn) (.int p.t tt) (.int p.z tz) fr (.bool true) (.bool true))
theorem PkAt.mono {w : World} {g g' : Heap} {p : Pk} (k : g.StaysIn g') (h : PkAt w g p) : PkAt w g' p :=
  let ⟨h1, k0, k1, k2, k3, k4, k5, tn, tt, tz, fr, h2⟩ := h; ⟨k _ _ h1, k0, k1, k2, k3, k4, k5, tn, tt, tz, fr, k _ _ h2⟩
theorem inst_base {g h : Heap} {L : Addr} {m : Str → Option Value} (F : Fr g L h m) {x C dx : Addr} {od : Obj} (h1 : g.get? x = some (instObj C dx)) (h2 : g.get? dx = some od) : InstAt h x (instObj C dx) C (some od) :=
  ⟨F.keep _ _ h1, rfl, rfl, F.keep _ _ h2⟩
/-- the packets as the Space keeps them; as the law does -/
abbrev sentOf (ps : List Pk) : List (Int × Value) := ps.map fun p => (p.n, Value.ref p.a)
abbrev outOf (ps : List Pk) : List (Int × Value) := ps.map fun p => (p.n, Value.ref p.u)
theorem sent_at {ps : List Pk} {i : Nat} {v : Value} (h : ∃ k, (sentOf ps)[i]? = some (k, v)) : ∃ p, ps[i]? = some p ∧ v = .ref p.a := by
  obtain ⟨k, hk⟩ := h
  rw [List.getElem?_map] at hk
  cases hp : ps[i]? with
  | none => rw [hp] at hk; cases hk
  | some p => rw [hp] at hk; simp only [Option.map_some, Option.some.injEq, Prod.mk.injEq] at hk; exact ⟨p, rfl, hk.2.symm⟩
theorem out_at {ps : List Pk} {i : Nat} {v : Value} (h : ∃ k, (outOf ps)[i]? = some (k, v)) : ∃ p, ps[i]? = some p ∧ v = .ref p.u := by
  obtain ⟨k, hk⟩ := h
  rw [List.getElem?_map] at hk
  cases hp : ps[i]? with
  | none => rw [hp] at hk; cases hk
  | some p => rw [hp] at hk; simp only [Option.map_some, Option.some.injEq, Prod.mk.injEq] at hk; exact ⟨p, rfl, hk.2.symm⟩
theorem take_snoc {α : Type} {ps : List α} {i : Nat} {p : α} (h : ps[i]? = some p) : ps.take (i + 1) = ps.take i ++ [p] := by rw [List.take_add_one, h]; rfl
/-- names that a loop's turns bind, whatever they hold -/
noncomputable def tmp (m₁ m₀ : Str → Option Value) : List Str → Str → Option Value
  | [], y => m₀ y
  | x :: r, y => if y = x then m₁ x else tmp m₁ m₀ r y
theorem tmp_at {m₁ m₀ : Str → Option Value} {y : Str} : ∀ {xs : List Str}, (y ∈ xs → tmp m₁ m₀ xs y = m₁ y) ∧ (y ∉ xs → tmp m₁ m₀ xs y = m₀ y)
  | [] => ⟨fun h => (nomatch h), fun _ => rfl⟩
  | x :: r => by
    unfold tmp
    by_cases e : y = x
    · rw [if_pos e]
      exact ⟨fun _ => by rw [e], fun h => absurd (e ▸ .head _) h⟩
    · rw [if_neg e]
      exact ⟨fun h => tmp_at.1 ((List.mem_cons.mp h).resolve_left e), fun h => tmp_at.2 fun q => h (.tail _ q)⟩
theorem tmp_eq {m₁ m₀ : Str → Option Value} {xs : List Str} (h : ∀ y, y ∉ xs → m₁ y = m₀ y) : tmp m₁ m₀ xs = m₁ := funext fun y => by
  by_cases hy : y ∈ xs
  · exact tmp_at.1 hy
  · rw [tmp_at.2 hy, h y hy]
theorem sent_at' {ps : List Pk} {i : Nat} {k : Int} {v : Value} (h : (sentOf ps)[i]? = some (k, v)) : ∃ p, ps[i]? = some p ∧ k = p.n ∧ v = .ref p.a := by
  rw [List.getElem?_map] at h
  cases hp : ps[i]? with
  | none => rw [hp] at h; cases h
  | some p => rw [hp] at h; simp only [Option.map_some, Option.some.injEq, Prod.mk.injEq] at h; exact ⟨p, rfl, h.1.symm, h.2.symm⟩
theorem stored_new {K : Type} [DecidableEq K] {kvs : List (K × Value)} {k : K} {v : Value} (h : k ∉ kvs.map (·.1)) : stored kvs k v = kvs ++ [(k, v)] := by
  unfold stored
  rw [if_neg]
  intro q
  obtain ⟨e, he, hk⟩ := List.any_eq_true.mp q
  exact h (List.mem_map.mpr ⟨e, he, by simpa using hk⟩)
theorem keys_sent (ps : List Pk) : (sentOf ps).map (·.1) = ps.map (·.n) := by simp [sentOf]
theorem keys_out (ps : List Pk) : (outOf ps).map (·.1) = ps.map (·.n) := by simp [outOf]
theorem split_at {α : Type} {ps : List α} {i : Nat} {p : α} (hp : ps[i]? = some p) : ps = ps.take i ++ p :: ps.drop (i + 1) := by
  have h1 := (List.take_append_drop i ps).symm
  have h2 : ps.drop i = p :: ps.drop (i + 1) := by
    obtain ⟨hi, e⟩ := List.getElem?_eq_some_iff.mp hp
    rw [List.drop_eq_getElem_cons hi, e]
  rw [h2] at h1
  exact h1
theorem fresh_at {ps : List Pk} {i : Nat} {p : Pk} (hn : (ps.map (·.n)).Nodup) (hp : ps[i]? = some p) : p.n ∉ (ps.take i).map (·.n) := by
  intro q
  have e := split_at hp
  rw [e, List.map_append, List.map_cons, List.nodup_append] at hn
  exact hn.2.2 _ q _ (.head _) rfl
end Mine
end

section
open PySem PySem.W PyProof.Rows PySem.Calls
set_option maxRecDepth 100000
set_option maxHeartbeats 8000000
namespace Mine
section
variable {prog : Program} {w : World} {A₀ A : Around} {s : Shared} {base h₀ : Heap} {outer : List Env} {L : Addr} {m : Str → Option Value} {env : Env} {news mine rest : List (Addr × Obj)}
  {Q E : Value → Shared → Prop} {name qual : Str} {params : Arguments} {body : List Stmt} {scope : Scope} {dV kV doc pm cdv ct oc : Value} {an od : Option Addr} {osl : Array (Option Value)} {f : Addr} {vs : List Value} {binds : List (Str × Value)}
  {K : Frag} {p : Program} {loose : List Str} {mean : ExcName → Option Value} {mg mb : Str → Option Value} {Post : Value → List (Addr × Obj) → Prop}
theorem fr_callC (B : Below A₀ base outer h₀) (F : Fr h₀ L s.heap m) (X₀ : K.In h₀) (N : News h₀ L s.heap news) (hsub : ∀ p ∈ mine, p ∈ news) (hrs : ∀ p ∈ rest, p ∈ news) (Ap : Apart rest mine)
    (T : Top p loose mean mg mb h₀) (hA : A.frames = some (env :: outer)) (hf : env.frame = some L) (hke : env.scope.kind = .function)
    (ho : K.lookup f = some ⟨oc, od, .func (fnOf name qual params body scope dV kV doc pm an cdv ct), osl⟩) (hcd : codeIn K cdv qual = true) (hroom : A.depth < recursionLimit)
    (hbind : BindsTo s (fnOf name qual params body scope dV kV doc pm an cdv ct) ⟨vs, []⟩ binds) (hkind : (binds.all fun y => scope.names.lookup y.1 == some .local || scope.names.lookup y.1 == some .cell) = true)
    (hnd : ((cellsFrom 0 scope.names []).map (·.1)).Nodup)
    (ret : ∀ v post h' tk', Fr h₀ L h' m → News h₀ L h' (post ++ rest) → Apart rest post → Post v post → Q v { s with heap := h', toks := tk' })
    (h : ∀ g L' h₁ tk cells, h₀.StaysIn g → (∀ p ∈ rest, g.get? p.1 = some p.2) → Fr g L' h₁ (bindL (envOfC qual scope L' f cdv).kindOf binds fun _ => none) → News g L' h₁ (cells ++ mine) →
      CellsAre (bindC (envOfC qual scope L' f cdv).kindOf binds fun _ => none) (cellsFrom (L' + 1) scope.names []) cells → Below A base (env :: outer) g → K.In g → Top p loose mean mg mb g → (∀ p ∈ mine, p.1 < L') →
      wpAny (model prog w) (A.deeper (envOfC qual scope L' f cdv)) (execs body (envOfC qual scope L' f cdv))
        (fun fl s' => LeafQ g L' { s with heap := h₁, toks := tk } Post (match fl with | .ret v => v | _ => .none) s') (fun _ _ => False) { s with heap := h₁, toks := tk })
    (hco : scope.isCoroutine = false) (hgen : scope.isGenerator = false) (hk : scope.kind = .function) :
    wpAny (model prog w) A (call (.ref f) vs) Q E s := by
  have Nm : News h₀ L s.heap mine := fun p hp => N p (hsub p hp)
  obtain ⟨FG, BG, st, _⟩ := groundX (R := fun _ _ => True) B F Nm hA hf hke
  have hrest : ∀ p ∈ rest, (hideAll s.heap (mine.map (·.1))).get? p.1 = some p.2 := fun p hp => hideAll_get _ (N p (hrs p hp)).1 fun q => by
    obtain ⟨q', hq', e⟩ := List.mem_map.mp q
    exact Ap q' hq' p hp e.symm
  refine wpAny_call (codeAny_call_function hroom ((X₀.keeps F.keep) _ _ ho) rfl hco hgen rfl (codeRec_of (X₀.keeps F.keep) hcd) (hbind _ _ _ _ ?_))
  refine wpAny_newFunctionEnv_cells hk (kindsX hkind _) fun env' he s' x => ?_
  subst he
  refine ⟨(T.nolimit.keeps F.keep).keeps x.toInCall.keep, codeAny_func ?_⟩
  obtain ⟨h₁, tk, rfl, _⟩ := x.done
  have hk₁ := x.toInCall.keep
  obtain ⟨cells, NC, Y⟩ := Cl.news (h₀ := s.heap) (Nat.le_refl _) fun n c hm => ⟨x.cell n c (lookup_of_mem_nodup (cellsFrom_names scope.names 0 (s.heap.objs.size + 1) [] [] rfl ▸ hnd) hm), x.above n c hm⟩
  refine wpAny_mono (h _ s.heap.objs.size h₁ tk cells st hrest ⟨x.toInCall.ns, fun b o e => hk₁ b o (of_hideAll _ e), Nat.le_of_eq (hideAll_size _ _)⟩ (fun p hp => ?_) Y BG (X₀.keeps st) (T.keeps st) (fun p hp => Heap.lt_size (Nm p hp).1)) (fun fl s' hl => frame_back B F N hsub hrs Ap hA hf hke ret _ _ hl) fun _ _ y => y.elim
  rcases List.mem_append.mp hp with hp | hp
  · refine ⟨(NC p hp).1, (NC p hp).2.1, ?_⟩
    cases q : (hideAll s.heap (mine.map (·.1))).get? p.1 with
    | none => rfl
    | some o => have := of_hideAll _ q; rw [(NC p hp).2.2] at this; cases this
  · exact ⟨hk₁ _ _ (Nm p hp).1, Nat.ne_of_lt (Heap.lt_size (Nm p hp).1), hideAll_none _ (List.mem_map_of_mem hp)⟩
end
end Mine
end

section
open PySem PySem.W PyProof.Rows PySem.Calls LCg LCt
set_option maxRecDepth 100000
set_option linter.unusedVariables false
set_option linter.unusedSimpArgs false
namespace Mine
local macro_rules | `(tactic| units_room) => `(tactic| ktr_units)
local macro_rules | `(tactic| k_units) => `(tactic| ktr_units)
local macro_rules | `(tactic| k_room) => `(tactic| ktr_room)


set_option hygiene false
local macro_rules | `(tactic| top_raise) => `(tactic| ((case zB => k_asm); (case zF => k_asm); (case zX => k_asm); (case zN => k_asm)))
local macro_rules | `(tactic| top_raise0) => `(tactic| ((case zT => k_asm); (case zk => first | exact rfl | assumption); (case zd => ktr_room); (case zu => ktr_units)))
local macro_rules | `(tactic| top_raiseB) => `(tactic| ((case zA => ktr_unf); (case zR => exact fun _ _ _ => trivial); top_raise0))
local macro_rules | `(tactic| top_strB) => `(tactic| ((try dsimp only [ctl, List.cons_append, List.nil_append] at N'); (try dsimp only); (try k_fold)))
local macro_rules | `(tactic| top_args) => `(tactic| (intro v' p' h' tk' F' N' A' P' G9 kG9))
local macro_rules | `(tactic| top_argsB) => `(tactic| (subst e1'; subst e2'; refine kG9 ?_; clear kG9 A'; top_strB))
local macro_rules | `(tactic| top_caught) => `(tactic| (k_here; (with_unfolding_all refine' For_invVF ?F ?k1 ?k2 ?_; (case F => k_asm); (case k1 => exact rfl); (case k2 => exact rfl))))
local macro_rules | `(tactic| top_caughtB) => `(tactic| first | (refine' room2 ?rmh ?rme; (case rmh => assumption); (case rme => exact rfl)) | (refine' room1 ?rmh ?rme; (case rmh => assumption); (case rme => exact rfl)) | (refine' room0 ?rmh; (case rmh => assumption)) | omega)
set_option hygiene true
local macro_rules | `(tactic| k_ne) => `(tactic| first | assumption | exact Ne.symm (by assumption) | (refine' ne_lt ?neh ?nem; (case neh => with_reducible assumption); (case nem => k_dflt k_mem)) | (refine' Ne.symm (ne_lt ?neh ?nem); (case neh => with_reducible assumption); (case nem => k_dflt k_mem)) | (refine' ne_mem ?neh ?nem; (case neh => with_reducible assumption); (case nem => k_dflt k_mem)) | (refine' Ne.symm (ne_mem ?neh ?nem); (case neh => with_reducible assumption); (case nem => k_dflt k_mem)) | (refine' ne_lt1 ?neh; (case neh => with_reducible assumption)) | (refine' Ne.symm (ne_lt1 ?neh); (case neh => with_reducible assumption)) | (refine' ne_lt2 ?neh ?nek ?nem; (case nek => with_reducible assumption); (case neh => with_reducible assumption); (case nem => k_dflt k_mem)) | (refine' Ne.symm (ne_lt2 ?neh ?nek ?nem); (case nek => with_reducible assumption); (case neh => with_reducible assumption); (case nem => k_dflt k_mem)) | (refine' ne_c1 ?neh ?nem; (case neh => with_reducible assumption); (case nem => k_dflt k_mem)) | (refine' Ne.symm (ne_c1 ?neh ?nem); (case neh => with_reducible assumption); (case nem => k_dflt k_mem)) | (refine' ne_c2 ?neh ?nem; (case neh => with_reducible assumption); (case nem => k_dflt k_mem)) | (refine' Ne.symm (ne_c2 ?neh ?nem); (case neh => with_reducible assumption); (case nem => k_dflt k_mem)) | (refine' ne_c3 ?neh ?nem; (case neh => with_reducible assumption); (case nem => k_dflt k_mem)) | (refine' Ne.symm (ne_c3 ?neh ?nem); (case neh => with_reducible assumption); (case nem => k_dflt k_mem)) | (refine neN ?_; (try dsimp only); omega))
local macro_rules | `(tactic| k_lt $h) => `(tactic| skip)
local macro_rules | `(tactic| k_all) => `(tactic| first | assumption | (refine' all_lt ?alh ?als; (case alh => with_reducible assumption); (case als => k_dflt tb_rel)) | exact all_n | (refine' all_c ?alh ?alt; (case alh => k_ne); (case alt => k_all)))
-- the tactics of the kit that this text gives a meaning of its own: ktr_rel the entries picked, ktr_unf what stands apart
local macro_rules | `(tactic| ktr_rel) => `(tactic| first | exact Picks.nil | exact Pick.head | exact PickR.head | (refine' Picks.cons ?pkp ?pkt; (case pkp => ktr_rel); (case pkt => ktr_rel)) | (refine' Pick.tail ?pkp; (case pkp => ktr_rel)) | (refine' Pick.skip ?pkp; (case pkp => ktr_rel)) | (refine' PickR.tail ?pkp; (case pkp => ktr_rel)) | (refine' Picks.letter ?pkp; (case pkp => ktr_rel)))
local macro_rules | `(tactic| ktr_unf) => `(tactic| first | exact Apart.nil | (refine Apart.cons ?a ?t; (case a => k_all); (case t => ktr_unf)) | exact Apart.none | (refine Apart.sw ?a ?t; (case a => k_all); (case t => ktr_unf)))
local macro_rules | `(tactic| ktr_units) => `(tactic| (have hcL9 := cLine_is; (try simp only [units_under_make, units_in1, units_deeper, Around.mark_units, units_caller]); (try dsimp only [ktrTop]); top_caughtB))
local macro_rules | `(tactic| ktr_room) => `(tactic| ((try simp only [recursionLimit, depth_under_make, depth_under_kw, depth_in1, depth_deeper, depth_caller] at *); (try dsimp only [ktrTop]); first | decide | top_caughtB))
local macro_rules | `(tactic| walk_at "setItem ref int") => `(tactic| (k_here; k_dflt (refine' kda_set (knd := PySem.intKind _ _) ?F ?N ?U ?d (intKind_is _ _ _ _) ?z ?_; (case F => k_asm); (case N => k_asm); (case U => k_updF); (case d => k_asm); (case z => (rw [sizeLine_eq]; (try simp only [List.length_map]); omega))); intro h' o' F' N' hd'; (try dsimp only at N')))
local macro_rules | `(tactic| k_inst) => `(tactic| (refine' inst_base ?F ?h1 ?h2; (case F => k_asm); (case h1 => assumption); (case h2 => assumption)))
local macro_rules | `(tactic| tb_rel) => `(tactic| first | exact sub_nil | (refine sub_cons ?a ?b; (case a => k_mem); (case b => tb_rel)) | (intro q9 hq9; (repeat (first | assumption | refine List.Mem.tail _ ?_))))
local macro_rules | `(tactic| walk_at "subscriptTail") => `(tactic| (k_here; (with_reducible show wpAny _ _ (subscriptTail _ _ (Value.ref _) (Value.int _ _)) _ _ _); k_dflt (refine' kda_item (knd := PySem.intKind _ _) ?N ?p ?d (intKind_is _ _ _ _) ?l ?_; (case N => k_asm); (case p => k_mem); (case d => assumption); (case l => assumption))))
local macro_rules | `(tactic| walk_at "exec For") => `(tactic| (top_caught))
local macro_rules | `(tactic| walk_at "exec For Name Attribute cons nil") => `(tactic| (top_caught))
local macro_rules | `(tactic| walk_at "exec For Name Name cons nil") => `(tactic| (top_caught))
local macro_rules | `(tactic| walk_at "exec For Name Call cons nil") => `(tactic| (top_caught))
local macro_rules | `(tactic| walk_at "getItem ref int") => `(tactic| (k_here; k_dflt (refine' kdt_getItem (knd := PySem.intKind _ _) ?N ?p ?d (intKind_is _ _ _ _) ?l ?_; (case N => k_asm); (case p => k_mem); (case d => assumption); (case l => assumption))))
local macro_rules | `(tactic| walk_at "pyIter ref") => `(tactic| (k_here; refine Stop.out ?_))


section
open PySem PySem.W PyProof.Rows PySem.Calls
set_option maxRecDepth 100000
set_option maxHeartbeats 8000000
section
theorem fresh_Draw : True := by
  w_top off
  exact trivial




def DrawPost (ap asc : Addr) (c : Nat) (p2 many : Int) (v : Value) (post : List (Addr × Obj)) : Prop :=
  ∃ r tr p0' t0' t2', v = .int r tr ∧ 0 ≤ r ∧ r < many ∧ 0 ≤ p0' ∧ p0' < 1009 ∧ post = [(ap, W.listOf #[.int p0' t0', .ref asc, .int (p2 + 1) t2'] c)]
theorem draw_end {g : Heap} {L' ap asc : Addr} {s₁ : Shared} {h' : Heap} {tk' c : Nat} {m' : Str → Option Value} {news : List (Addr × Obj)} {p2 many x y : Int} {tr t0' t2' : Tok} (hm : 0 < many)
    (F : Fr g L' h' m') (N : News g L' h' news) (hs : (ap, W.listOf #[.int (Int.fmod y 1009) t0', .ref asc, .int (p2 + 1) t2'] c) ∈ news) :
    LeafQ g L' s₁ (DrawPost ap asc c p2 many) (.int (Int.fmod x many) tr) { s₁ with heap := h', toks := tk' } :=
  LeafQ.of F N (sub_cons hs sub_nil) ⟨_, _, _, _, _, rfl, fmod_lo _ hm, fmod_hi _ hm, fmod_lo _ (by decide), fmod_hi _ (by decide), rfl⟩

theorem spec_draw (w : World) (ap asc : Addr) (ys : List Value) (ns : List Int) (p0 p2 many : Int) (t0 t2 tm : Tok) (c : Nat) (hi : IntsAre ys ns) (hlen : ns.length ≤ 24)
    (hp0 : 0 ≤ p0) (hp0' : p0 < 1009) (hp2 : 0 ≤ p2) (hp2' : p2 < 2 ^ 40) (hm : 0 < many) (hm' : many < 2 ^ 40) :
    Spec w 344 20 400 [.ref ap, .int many tm] [(ap, W.listOf #[.int p0 t0, .ref asc, .int p2 t2] c)] (fun g => g.IsList asc ys.toArray) (DrawPost ap asc c p2 many) := by
  unfold Spec
  k_fill
  intro dp9z un9z gd9z cn9z cs9z a9z ccd9z cl9z outer9z A₀9z base9z h₀9z L9z m9z s9z Q9z E9z mean9z mg9z mb9z news9z rest9z hB9z hF9z hX9z hN9z hsub9z hrs9z hAp9z hRo9z hT9z hk9z hd9z hu9z hret9z
  first
  | (k_dflt (refine' fr_call hB9z hF9z hX9z hN9z hsub9z hrs9z hAp9z hT9z rfl rfl hk9z ?k6 ?k7 ?k8 ?k9 ?kB hret9z ?_ ?c2 ?c3 ?c4 ?c5; (case k6 => k_is); (case k7 => k_is); (case k8 => ktr_room); (case k9 => exact BindsTo.of_eq rfl); (case c5 => decide); (case kB => exact locs rfl); (case c2 => exact rfl); (case c3 => exact rfl); (case c4 => exact rfl))
     k_whole
     intro g9z' L9z' h9z' tk9z' st9z' hR9z' F9z' N9z' B9z' X9z' T9z'
     have hRo9z' := hRo9z g9z' st9z' hR9z'
     (try dsimp only at hRo9z')
     clear hB9z hF9z hX9z hN9z hsub9z hrs9z hAp9z hRo9z hT9z hret9z st9z' hR9z')
  | (k_dflt (refine' fr_callC hB9z hF9z hX9z hN9z hsub9z hrs9z hAp9z hT9z rfl rfl hk9z ?k6 ?k7 ?k8 ?k9 ?kB ?kD hret9z ?_ ?c2 ?c3 ?c4; (case k6 => k_is); (case k7 => k_is); (case k8 => ktr_room); (case k9 => exact BindsTo.of_eq rfl); (case kB => exact rfl); (case kD => decide +kernel); (case c2 => exact rfl); (case c3 => exact rfl); (case c4 => exact rfl))
     k_whole
     intro g9z' L9z' h9z' tk9z' cells9z' st9z' hR9z' F9z' N9z' Y9z' B9z' X9z' T9z' l19z
     have hRo9z' := hRo9z g9z' st9z' hR9z'
     (try dsimp only at hRo9z')
     clear hB9z hF9z hX9z hN9z hsub9z hrs9z hAp9z hRo9z hT9z hret9z st9z' hR9z'
     (try k_lt l19z)
     k_cells Y9z'
     (try dsimp only [List.cons_append, List.nil_append] at N9z'))
  (try dsimp only)
  (try k_fold)
  refine gen_Q fun Q0 hQ0 => ?_
  k_steps
  all_goals (try dsimp only)
  rotate_left
  · exfalso
    rename_i x
    have h0 : ns = [] := List.length_eq_zero_iff.mp (by omega)
    simp [h0] at *
  all_goals exact hQ0 _ _ (draw_end hm (by k_asm) (by k_asm) (by k_mem))
end
end

section
open PySem PySem.W PyProof.Rows PySem.Calls
set_option maxRecDepth 100000
set_option maxHeartbeats 8000000
set_option linter.unusedVariables false
section
theorem fresh_Ctl : True := by
  w_top off
  exact trivial
local macro_rules | `(tactic| walk_at "no") => `(tactic| fail)



set_option hygiene false
set_option hygiene true
/-- a NewReno of the ledger -/
abbrev ctl (w : World) (act dct : Addr) (T : Nat → Tok) (dg wi th rc fl cr : Value) : List (Addr × Obj) := [(act, instObj 148 dct), (dct, ctD w T dg wi th rc fl cr)]
theorem ctl_end {w : World} {g : Heap} {L' act dct : Addr} {s₁ : Shared} {h' : Heap} {tk' : Nat} {m' : Str → Option Value} {news : List (Addr × Obj)} {T : Nat → Tok} {dg wi th rc fl cr v : Value} {Post : Value → List (Addr × Obj) → Prop}
    (F : Fr g L' h' m') (N : News g L' h' news) (h1 : (act, instObj 148 dct) ∈ news) (h2 : (dct, ctD w T dg wi th rc fl cr) ∈ news) (hp : Post v (ctl w act dct T dg wi th rc fl cr)) :
    LeafQ g L' s₁ Post v { s₁ with heap := h', toks := tk' } := LeafQ.of F N (sub_cons h1 (sub_cons h2 sub_nil)) hp

section
variable (w : World) (act dct : Addr) (T : Nat → Tok) (dg W th rc cr : Value)
theorem spec_may_send (Wd f z : Int) (tW tf tz : Tok) (hne : act ≠ dct) :
    Spec w 82 20 400 [.ref act, .int z tz] (ctl w act dct T dg (.int Wd tW) th rc (.int f tf) cr) (fun _ => True)
      (fun v post => v = .bool (decide (f + z ≤ Wd)) ∧ post = ctl w act dct T dg (.int Wd tW) th rc (.int f tf) cr) := by
  unfold Spec
  k_fill
  intro dp9z un9z gd9z cn9z cs9z a9z ccd9z cl9z outer9z A₀9z base9z h₀9z L9z m9z s9z Q9z E9z mean9z mg9z mb9z news9z rest9z hB9z hF9z hX9z hN9z hsub9z hrs9z hAp9z hRo9z hT9z hk9z hd9z hu9z hret9z
  first
  | (k_dflt (refine' fr_call hB9z hF9z hX9z hN9z hsub9z hrs9z hAp9z hT9z rfl rfl hk9z ?k6 ?k7 ?k8 ?k9 ?kB hret9z ?_ ?c2 ?c3 ?c4 ?c5; (case k6 => k_is); (case k7 => k_is); (case k8 => ktr_room); (case k9 => exact BindsTo.of_eq rfl); (case c5 => decide); (case kB => exact locs rfl); (case c2 => exact rfl); (case c3 => exact rfl); (case c4 => exact rfl))
     k_whole
     intro g9z' L9z' h9z' tk9z' st9z' hR9z' F9z' N9z' B9z' X9z' T9z'
     have hRo9z' := hRo9z g9z' st9z' hR9z'
     (try dsimp only at hRo9z')
     clear hB9z hF9z hX9z hN9z hsub9z hrs9z hAp9z hRo9z hT9z hret9z st9z' hR9z')
  | (k_dflt (refine' fr_callC hB9z hF9z hX9z hN9z hsub9z hrs9z hAp9z hT9z rfl rfl hk9z ?k6 ?k7 ?k8 ?k9 ?kB ?kD hret9z ?_ ?c2 ?c3 ?c4; (case k6 => k_is); (case k7 => k_is); (case k8 => ktr_room); (case k9 => exact BindsTo.of_eq rfl); (case kB => exact rfl); (case kD => decide +kernel); (case c2 => exact rfl); (case c3 => exact rfl); (case c4 => exact rfl))
     k_whole
     intro g9z' L9z' h9z' tk9z' cells9z' st9z' hR9z' F9z' N9z' Y9z' B9z' X9z' T9z' l19z
     have hRo9z' := hRo9z g9z' st9z' hR9z'
     (try dsimp only at hRo9z')
     clear hB9z hF9z hX9z hN9z hsub9z hrs9z hAp9z hRo9z hT9z hret9z st9z' hR9z'
     (try k_lt l19z)
     k_cells Y9z'
     (try dsimp only [List.cons_append, List.nil_append] at N9z'))
  (try dsimp only)
  (try k_fold)
  refine gen_Q fun Q0 hQ0 => ?_
  k_steps
  all_goals (try dsimp only)
  all_goals exact hQ0 _ _ (ctl_end (by k_asm) (by k_asm) (by k_mem) (by k_mem) ⟨rfl, rfl⟩)

theorem spec_ctl_sent (f z : Int) (tf tz : Tok) (hne : act ≠ dct) :
    Spec w 103 20 400 [.ref act, .int z tz] (ctl w act dct T dg W th rc (.int f tf) cr) (fun _ => True)
      (fun v post => ∃ t', v = .none ∧ post = ctl w act dct T dg W th rc (.int (f + z) t') cr) := by
  unfold Spec
  k_fill
  intro dp9z un9z gd9z cn9z cs9z a9z ccd9z cl9z outer9z A₀9z base9z h₀9z L9z m9z s9z Q9z E9z mean9z mg9z mb9z news9z rest9z hB9z hF9z hX9z hN9z hsub9z hrs9z hAp9z hRo9z hT9z hk9z hd9z hu9z hret9z
  first
  | (k_dflt (refine' fr_call hB9z hF9z hX9z hN9z hsub9z hrs9z hAp9z hT9z rfl rfl hk9z ?k6 ?k7 ?k8 ?k9 ?kB hret9z ?_ ?c2 ?c3 ?c4 ?c5; (case k6 => k_is); (case k7 => k_is); (case k8 => ktr_room); (case k9 => exact BindsTo.of_eq rfl); (case c5 => decide); (case kB => exact locs rfl); (case c2 => exact rfl); (case c3 => exact rfl); (case c4 => exact rfl))
     k_whole
     intro g9z' L9z' h9z' tk9z' st9z' hR9z' F9z' N9z' B9z' X9z' T9z'
     have hRo9z' := hRo9z g9z' st9z' hR9z'
     (try dsimp only at hRo9z')
     clear hB9z hF9z hX9z hN9z hsub9z hrs9z hAp9z hRo9z hT9z hret9z st9z' hR9z')
  | (k_dflt (refine' fr_callC hB9z hF9z hX9z hN9z hsub9z hrs9z hAp9z hT9z rfl rfl hk9z ?k6 ?k7 ?k8 ?k9 ?kB ?kD hret9z ?_ ?c2 ?c3 ?c4; (case k6 => k_is); (case k7 => k_is); (case k8 => ktr_room); (case k9 => exact BindsTo.of_eq rfl); (case kB => exact rfl); (case kD => decide +kernel); (case c2 => exact rfl); (case c3 => exact rfl); (case c4 => exact rfl))
     k_whole
     intro g9z' L9z' h9z' tk9z' cells9z' st9z' hR9z' F9z' N9z' Y9z' B9z' X9z' T9z' l19z
     have hRo9z' := hRo9z g9z' st9z' hR9z'
     (try dsimp only at hRo9z')
     clear hB9z hF9z hX9z hN9z hsub9z hrs9z hAp9z hRo9z hT9z hret9z st9z' hR9z'
     (try k_lt l19z)
     k_cells Y9z'
     (try dsimp only [List.cons_append, List.nil_append] at N9z'))
  (try dsimp only)
  (try k_fold)
  refine gen_Q fun Q0 hQ0 => ?_
  k_steps
  all_goals (try dsimp only)
  all_goals exact hQ0 _ _ (ctl_end (by k_asm) (by k_asm) (by k_mem) (by k_mem) ⟨_, rfl, rfl⟩)

theorem spec_discarded (f z : Int) (tf tz : Tok) (hne : act ≠ dct) :
    Spec w 110 20 400 [.ref act, .int z tz] (ctl w act dct T dg W th rc (.int f tf) cr) (fun _ => True)
      (fun v post => ∃ t', v = .none ∧ post = ctl w act dct T dg W th rc (.int (f - z) t') cr) := by
  unfold Spec
  k_fill
  intro dp9z un9z gd9z cn9z cs9z a9z ccd9z cl9z outer9z A₀9z base9z h₀9z L9z m9z s9z Q9z E9z mean9z mg9z mb9z news9z rest9z hB9z hF9z hX9z hN9z hsub9z hrs9z hAp9z hRo9z hT9z hk9z hd9z hu9z hret9z
  first
  | (k_dflt (refine' fr_call hB9z hF9z hX9z hN9z hsub9z hrs9z hAp9z hT9z rfl rfl hk9z ?k6 ?k7 ?k8 ?k9 ?kB hret9z ?_ ?c2 ?c3 ?c4 ?c5; (case k6 => k_is); (case k7 => k_is); (case k8 => ktr_room); (case k9 => exact BindsTo.of_eq rfl); (case c5 => decide); (case kB => exact locs rfl); (case c2 => exact rfl); (case c3 => exact rfl); (case c4 => exact rfl))
     k_whole
     intro g9z' L9z' h9z' tk9z' st9z' hR9z' F9z' N9z' B9z' X9z' T9z'
     have hRo9z' := hRo9z g9z' st9z' hR9z'
     (try dsimp only at hRo9z')
     clear hB9z hF9z hX9z hN9z hsub9z hrs9z hAp9z hRo9z hT9z hret9z st9z' hR9z')
  | (k_dflt (refine' fr_callC hB9z hF9z hX9z hN9z hsub9z hrs9z hAp9z hT9z rfl rfl hk9z ?k6 ?k7 ?k8 ?k9 ?kB ?kD hret9z ?_ ?c2 ?c3 ?c4; (case k6 => k_is); (case k7 => k_is); (case k8 => ktr_room); (case k9 => exact BindsTo.of_eq rfl); (case kB => exact rfl); (case kD => decide +kernel); (case c2 => exact rfl); (case c3 => exact rfl); (case c4 => exact rfl))
     k_whole
     intro g9z' L9z' h9z' tk9z' cells9z' st9z' hR9z' F9z' N9z' Y9z' B9z' X9z' T9z' l19z
     have hRo9z' := hRo9z g9z' st9z' hR9z'
     (try dsimp only at hRo9z')
     clear hB9z hF9z hX9z hN9z hsub9z hrs9z hAp9z hRo9z hT9z hret9z st9z' hR9z'
     (try k_lt l19z)
     k_cells Y9z'
     (try dsimp only [List.cons_append, List.nil_append] at N9z'))
  (try dsimp only)
  (try k_fold)
  refine gen_Q fun Q0 hQ0 => ?_
  k_steps
  all_goals (try dsimp only)
  all_goals exact hQ0 _ _ (ctl_end (by k_asm) (by k_asm) (by k_mem) (by k_mem) ⟨_, rfl, rfl⟩)

theorem widen_q {W z c : Int} (hW : 200 ≤ W) (hz : 2 ≤ z) (hc : 0 ≤ c) (hc' : c < W) : 0 ≤ (c + 100 * z).fdiv W ∧ (c + 100 * z).fdiv W ≤ z ∧ 0 ≤ c + 100 * z - (c + 100 * z).fdiv W * W ∧ c + 100 * z - (c + 100 * z).fdiv W * W < W := by
  have h1 := Int.fdiv_eq_ediv_of_nonneg (c + 100 * z) (show 0 ≤ W by omega)
  rw [h1]
  have hm := Int.emod_add_mul_ediv (c + 100 * z) W
  have h2 := Int.emod_nonneg (c + 100 * z) (show W ≠ 0 by omega)
  have h3 := Int.emod_lt_of_pos (c + 100 * z) (show 0 < W by omega)
  have h4 : 0 ≤ (c + 100 * z) / W := Int.ediv_nonneg (by omega) (by omega)
  have h5 : (c + 100 * z) / W < z + 1 := by
    rw [Int.ediv_lt_iff_lt_mul (by omega)]
    have : 200 * z ≤ z * W := by rw [Int.mul_comm z W]; exact Int.mul_le_mul_of_nonneg_right hW (by omega)
    rw [Int.add_mul]
    omega
  have h6 : (c + 100 * z) / W * W = W * ((c + 100 * z) / W) := Int.mul_comm _ _
  refine ⟨h4, by omega, by omega, by omega⟩
/-- a threshold, a recovery's time: None or an int -/
inductive OptInt : Value → Prop
  | none : OptInt .none
  | int (i : Int) (t : Tok) : OptInt (.int i t)
/-- a question that changes nothing -/
def AskPost (mine : List (Addr × Obj)) (v : Value) (post : List (Addr × Obj)) : Prop := ∃ b, v = .bool b ∧ post = mine
theorem spec_in_recovery (wi fl : Value) (i : Int) (ti : Tok) (hrc : OptInt rc) (hne : act ≠ dct) :
    Spec w 96 20 200 [.ref act, .int i ti] (ctl w act dct T dg wi th rc fl cr) (fun _ => True) (AskPost (ctl w act dct T dg wi th rc fl cr)) := by
  cases hrc
  all_goals (
    unfold Spec
    k_fill
    intro dp9z un9z gd9z cn9z cs9z a9z ccd9z cl9z outer9z A₀9z base9z h₀9z L9z m9z s9z Q9z E9z mean9z mg9z mb9z news9z rest9z hB9z hF9z hX9z hN9z hsub9z hrs9z hAp9z hRo9z hT9z hk9z hd9z hu9z hret9z
    first
    | (k_dflt (refine' fr_call hB9z hF9z hX9z hN9z hsub9z hrs9z hAp9z hT9z rfl rfl hk9z ?k6 ?k7 ?k8 ?k9 ?kB hret9z ?_ ?c2 ?c3 ?c4 ?c5; (case k6 => k_is); (case k7 => k_is); (case k8 => ktr_room); (case k9 => exact BindsTo.of_eq rfl); (case c5 => decide); (case kB => exact locs rfl); (case c2 => exact rfl); (case c3 => exact rfl); (case c4 => exact rfl))
       k_whole
       intro g9z' L9z' h9z' tk9z' st9z' hR9z' F9z' N9z' B9z' X9z' T9z'
       have hRo9z' := hRo9z g9z' st9z' hR9z'
       (try dsimp only at hRo9z')
       clear hB9z hF9z hX9z hN9z hsub9z hrs9z hAp9z hRo9z hT9z hret9z st9z' hR9z')
    | (k_dflt (refine' fr_callC hB9z hF9z hX9z hN9z hsub9z hrs9z hAp9z hT9z rfl rfl hk9z ?k6 ?k7 ?k8 ?k9 ?kB ?kD hret9z ?_ ?c2 ?c3 ?c4; (case k6 => k_is); (case k7 => k_is); (case k8 => ktr_room); (case k9 => exact BindsTo.of_eq rfl); (case kB => exact rfl); (case kD => decide +kernel); (case c2 => exact rfl); (case c3 => exact rfl); (case c4 => exact rfl))
       k_whole
       intro g9z' L9z' h9z' tk9z' cells9z' st9z' hR9z' F9z' N9z' Y9z' B9z' X9z' T9z' l19z
       have hRo9z' := hRo9z g9z' st9z' hR9z'
       (try dsimp only at hRo9z')
       clear hB9z hF9z hX9z hN9z hsub9z hrs9z hAp9z hRo9z hT9z hret9z st9z' hR9z'
       (try k_lt l19z)
       k_cells Y9z'
       (try dsimp only [List.cons_append, List.nil_append] at N9z'))
    (try dsimp only)
    (try k_fold)
    refine gen_Q fun Q0 hQ0 => ?_
    k_steps
    all_goals (try dsimp only)
    all_goals exact hQ0 _ _ (ctl_end (by k_asm) (by k_asm) (by k_mem) (by k_mem) ⟨_, rfl, rfl⟩))
theorem spec_slow_start (Wd : Int) (tW : Tok) (fl : Value) (hth : OptInt th) (hne : act ≠ dct) :
    Spec w 89 20 200 [.ref act] (ctl w act dct T dg (.int Wd tW) th rc fl cr) (fun _ => True) (AskPost (ctl w act dct T dg (.int Wd tW) th rc fl cr)) := by
  cases hth
  all_goals (
    unfold Spec
    k_fill
    intro dp9z un9z gd9z cn9z cs9z a9z ccd9z cl9z outer9z A₀9z base9z h₀9z L9z m9z s9z Q9z E9z mean9z mg9z mb9z news9z rest9z hB9z hF9z hX9z hN9z hsub9z hrs9z hAp9z hRo9z hT9z hk9z hd9z hu9z hret9z
    first
    | (k_dflt (refine' fr_call hB9z hF9z hX9z hN9z hsub9z hrs9z hAp9z hT9z rfl rfl hk9z ?k6 ?k7 ?k8 ?k9 ?kB hret9z ?_ ?c2 ?c3 ?c4 ?c5; (case k6 => k_is); (case k7 => k_is); (case k8 => ktr_room); (case k9 => exact BindsTo.of_eq rfl); (case c5 => decide); (case kB => exact locs rfl); (case c2 => exact rfl); (case c3 => exact rfl); (case c4 => exact rfl))
       k_whole
       intro g9z' L9z' h9z' tk9z' st9z' hR9z' F9z' N9z' B9z' X9z' T9z'
       have hRo9z' := hRo9z g9z' st9z' hR9z'
       (try dsimp only at hRo9z')
       clear hB9z hF9z hX9z hN9z hsub9z hrs9z hAp9z hRo9z hT9z hret9z st9z' hR9z')
    | (k_dflt (refine' fr_callC hB9z hF9z hX9z hN9z hsub9z hrs9z hAp9z hT9z rfl rfl hk9z ?k6 ?k7 ?k8 ?k9 ?kB ?kD hret9z ?_ ?c2 ?c3 ?c4; (case k6 => k_is); (case k7 => k_is); (case k8 => ktr_room); (case k9 => exact BindsTo.of_eq rfl); (case kB => exact rfl); (case kD => decide +kernel); (case c2 => exact rfl); (case c3 => exact rfl); (case c4 => exact rfl))
       k_whole
       intro g9z' L9z' h9z' tk9z' cells9z' st9z' hR9z' F9z' N9z' Y9z' B9z' X9z' T9z' l19z
       have hRo9z' := hRo9z g9z' st9z' hR9z'
       (try dsimp only at hRo9z')
       clear hB9z hF9z hX9z hN9z hsub9z hrs9z hAp9z hRo9z hT9z hret9z st9z' hR9z'
       (try k_lt l19z)
       k_cells Y9z'
       (try dsimp only [List.cons_append, List.nil_append] at N9z'))
    (try dsimp only)
    (try k_fold)
    refine gen_Q fun Q0 hQ0 => ?_
    k_steps
    all_goals (try dsimp only)
    all_goals exact hQ0 _ _ (ctl_end (by k_asm) (by k_asm) (by k_mem) (by k_mem) ⟨_, rfl, rfl⟩))
def WidePost (w : World) (act dct : Addr) (T : Nat → Tok) (tg : Tok) (Wd z : Int) (th rc fl : Value) (v : Value) (post : List (Addr × Obj)) : Prop :=
  ∃ Wd' c' t1 t3, v = .none ∧ Wd ≤ Wd' ∧ Wd' ≤ Wd + z ∧ 0 ≤ c' ∧ c' < Wd' ∧ post = ctl w act dct T (.int 100 tg) (.int Wd' t1) th rc fl (.int c' t3)
theorem spec_widen (Wd z c : Int) (tW tz tc : Tok) (fl : Value) (tg : Tok) (hne : act ≠ dct) (hW : 200 ≤ Wd) (hW' : Wd < 2 ^ 30) (hz : 2 ≤ z) (hz' : z ≤ 100) (hc : 0 ≤ c) (hc' : c < Wd) :
    Spec w 124 20 200 [.ref act, .int z tz] (ctl w act dct T (.int 100 tg) (.int Wd tW) th rc fl (.int c tc)) (fun _ => True) (WidePost w act dct T tg Wd z th rc fl) := by
  unfold Spec
  k_fill
  intro dp9z un9z gd9z cn9z cs9z a9z ccd9z cl9z outer9z A₀9z base9z h₀9z L9z m9z s9z Q9z E9z mean9z mg9z mb9z news9z rest9z hB9z hF9z hX9z hN9z hsub9z hrs9z hAp9z hRo9z hT9z hk9z hd9z hu9z hret9z
  first
  | (k_dflt (refine' fr_call hB9z hF9z hX9z hN9z hsub9z hrs9z hAp9z hT9z rfl rfl hk9z ?k6 ?k7 ?k8 ?k9 ?kB hret9z ?_ ?c2 ?c3 ?c4 ?c5; (case k6 => k_is); (case k7 => k_is); (case k8 => ktr_room); (case k9 => exact BindsTo.of_eq rfl); (case c5 => decide); (case kB => exact locs rfl); (case c2 => exact rfl); (case c3 => exact rfl); (case c4 => exact rfl))
     k_whole
     intro g9z' L9z' h9z' tk9z' st9z' hR9z' F9z' N9z' B9z' X9z' T9z'
     have hRo9z' := hRo9z g9z' st9z' hR9z'
     (try dsimp only at hRo9z')
     clear hB9z hF9z hX9z hN9z hsub9z hrs9z hAp9z hRo9z hT9z hret9z st9z' hR9z')
  | (k_dflt (refine' fr_callC hB9z hF9z hX9z hN9z hsub9z hrs9z hAp9z hT9z rfl rfl hk9z ?k6 ?k7 ?k8 ?k9 ?kB ?kD hret9z ?_ ?c2 ?c3 ?c4; (case k6 => k_is); (case k7 => k_is); (case k8 => ktr_room); (case k9 => exact BindsTo.of_eq rfl); (case kB => exact rfl); (case kD => decide +kernel); (case c2 => exact rfl); (case c3 => exact rfl); (case c4 => exact rfl))
     k_whole
     intro g9z' L9z' h9z' tk9z' cells9z' st9z' hR9z' F9z' N9z' Y9z' B9z' X9z' T9z' l19z
     have hRo9z' := hRo9z g9z' st9z' hR9z'
     (try dsimp only at hRo9z')
     clear hB9z hF9z hX9z hN9z hsub9z hrs9z hAp9z hRo9z hT9z hret9z st9z' hR9z'
     (try k_lt l19z)
     k_cells Y9z'
     (try dsimp only [List.cons_append, List.nil_append] at N9z'))
  (try dsimp only)
  (try k_fold)
  refine gen_Q fun Q0 hQ0 => ?_
  k_steps
  all_goals (try dsimp only)
  have hq := widen_q hW hz hc hc'
  all_goals exact hQ0 _ _ (ctl_end (by k_asm) (by k_asm) (by k_mem) (by k_mem) ⟨_, _, _, _, rfl, by omega, by omega, hq.2.2.1, Int.lt_of_lt_of_le hq.2.2.2 (by omega), rfl⟩)
end
set_option hygiene false
set_option hygiene true
section
variable (w : World) (act dct : Addr) (T : Nat → Tok) (dg W th rc cr : Value)
def AckedPost (w : World) (act dct : Addr) (T : Nat → Tok) (tg : Tok) (Wd z f : Int) (th rc : Value) (v : Value) (post : List (Addr × Obj)) : Prop :=
  ∃ Wd' c' t1 t2 t3, v = .none ∧ Wd ≤ Wd' ∧ Wd' ≤ Wd + z ∧ 0 ≤ c' ∧ c' < Wd' ∧ post = ctl w act dct T (.int 100 tg) (.int Wd' t1) th rc (.int (f - z) t2) (.int c' t3)
theorem acked_post {w : World} {act dct : Addr} {T : Nat → Tok} {tg t1 t2 t3 : Tok} {Wd z f Wd' c' : Int} {th rc : Value} (h1 : Wd ≤ Wd') (h2 : Wd' ≤ Wd + z) (h3 : 0 ≤ c') (h4 : c' < Wd') :
    AckedPost w act dct T tg Wd z f th rc .none (ctl w act dct T (.int 100 tg) (.int Wd' t1) th rc (.int (f - z) t2) (.int c' t3)) := ⟨_, _, _, _, _, rfl, h1, h2, h3, h4, rfl⟩
theorem spec_acked (Wd f z c st now : Int) (tW tf tz tc ts tn : Tok) (sm : Value) (tg : Tok) (hth : OptInt th) (hrc : OptInt rc) (hne : act ≠ dct) (hW : 200 ≤ Wd) (hW' : Wd < 2 ^ 30) (hz : 2 ≤ z) (hz' : z ≤ 100) (hc : 0 ≤ c) (hc' : c < Wd) :
    Spec w 117 50 800 [.ref act, .int z tz, .int st ts, .bool true, .int now tn, sm] (ctl w act dct T (.int 100 tg) (.int Wd tW) th rc (.int f tf) (.int c tc)) (fun _ => True)
      (AckedPost w act dct T tg Wd z f th rc) := by
  unfold Spec
  k_fill
  intro dp9z un9z gd9z cn9z cs9z a9z ccd9z cl9z outer9z A₀9z base9z h₀9z L9z m9z s9z Q9z E9z mean9z mg9z mb9z news9z rest9z hB9z hF9z hX9z hN9z hsub9z hrs9z hAp9z hRo9z hT9z hk9z hd9z hu9z hret9z
  first
  | (k_dflt (refine' fr_call hB9z hF9z hX9z hN9z hsub9z hrs9z hAp9z hT9z rfl rfl hk9z ?k6 ?k7 ?k8 ?k9 ?kB hret9z ?_ ?c2 ?c3 ?c4 ?c5; (case k6 => k_is); (case k7 => k_is); (case k8 => ktr_room); (case k9 => exact BindsTo.of_eq rfl); (case c5 => decide); (case kB => exact locs rfl); (case c2 => exact rfl); (case c3 => exact rfl); (case c4 => exact rfl))
     k_whole
     intro g9z' L9z' h9z' tk9z' st9z' hR9z' F9z' N9z' B9z' X9z' T9z'
     have hRo9z' := hRo9z g9z' st9z' hR9z'
     (try dsimp only at hRo9z')
     clear hB9z hF9z hX9z hN9z hsub9z hrs9z hAp9z hRo9z hT9z hret9z st9z' hR9z')
  | (k_dflt (refine' fr_callC hB9z hF9z hX9z hN9z hsub9z hrs9z hAp9z hT9z rfl rfl hk9z ?k6 ?k7 ?k8 ?k9 ?kB ?kD hret9z ?_ ?c2 ?c3 ?c4; (case k6 => k_is); (case k7 => k_is); (case k8 => ktr_room); (case k9 => exact BindsTo.of_eq rfl); (case kB => exact rfl); (case kD => decide +kernel); (case c2 => exact rfl); (case c3 => exact rfl); (case c4 => exact rfl))
     k_whole
     intro g9z' L9z' h9z' tk9z' cells9z' st9z' hR9z' F9z' N9z' Y9z' B9z' X9z' T9z' l19z
     have hRo9z' := hRo9z g9z' st9z' hR9z'
     (try dsimp only at hRo9z')
     clear hB9z hF9z hX9z hN9z hsub9z hrs9z hAp9z hRo9z hT9z hret9z st9z' hR9z'
     (try k_lt l19z)
     k_cells Y9z'
     (try dsimp only [List.cons_append, List.nil_append] at N9z'))
  (try dsimp only)
  (try k_fold)
  refine gen_Q fun Q0 hQ0 => ?_
  (repeat' (first | (k_unfold; (try dsimp only)) | (k_end; wrow_close) | (with_reducible first | (k_here; (show wpAny _ _ (call (Value.ref 124) _) _ _ _); k_dflt (refine' Spec.useG (spec_widen _ _ _ _ _ _ _ _ _ _ _ _ _ _ ?wne ?wW ?wW2 ?wz ?wz2 ?wc ?wc2) ?zB ?zF ?zX ?zN ?zP ?zA ?zR ?zT ?zk ?zd ?zu ?_); top_raise; (case zP => ktr_rel); (case wne => k_ne); (case wW | wW2 | wz | wz2 | wc | wc2 => assumption); top_raiseB; top_args; k_dflt (obtain ⟨Wd', cr', ta', tc'', e1', hW1', hW2', hc1', hc2', e2'⟩ := P'; top_argsB)) | (k_here; (show wpAny _ _ (call (Value.ref 89) _) _ _ _); k_dflt (refine' Spec.useG (spec_slow_start _ _ _ _ _ _ _ _ _ _ _ ?sth ?sne) ?zB ?zF ?zX ?zN ?zP ?zA ?zR ?zT ?zk ?zd ?zu ?_); top_raise; (case zP => ktr_rel); (case sth => assumption); (case sne => k_ne); top_raiseB; top_args; k_dflt (obtain ⟨b', e1', e2'⟩ := P'; top_argsB)) | (k_here; (show wpAny _ _ (call (Value.ref 96) _) _ _ _); k_dflt (refine' Spec.useG (spec_in_recovery _ _ _ _ _ _ _ _ _ _ _ _ ?irc ?ine) ?zB ?zF ?zX ?zN ?zP ?zA ?zR ?zT ?zk ?zd ?zu ?_); top_raise; (case zP => ktr_rel); (case irc => assumption); (case ine => k_ne); top_raiseB; top_args; k_dflt (obtain ⟨b', e1', e2'⟩ := P'; top_argsB))) | walk1 | dsimp only | (leave1; try dsimp only) | fail "no step"))
  all_goals (try dsimp only)
  all_goals exact hQ0 _ _ (ctl_end (by k_asm) (by k_asm) (by k_mem) (by k_mem) (acked_post (by first | assumption | omega) (by first | assumption | omega) (by assumption) (by first | assumption | omega)))

theorem half_law {W : Int} (hW : 200 ≤ W) : 200 ≤ (if 2 * 100 > (W * 1).fdiv 2 then 2 * 100 else (W * 1).fdiv 2) ∧ W.fdiv 2 ≤ (if 2 * 100 > (W * 1).fdiv 2 then 2 * 100 else (W * 1).fdiv 2) ∧ (if 2 * 100 > (W * 1).fdiv 2 then 2 * 100 else (W * 1).fdiv 2) ≤ W := by
  rw [Int.mul_one, Int.fdiv_eq_ediv_of_nonneg W (show (0 : Int) ≤ 2 by decide)]
  split <;> refine ⟨?_, ?_, ?_⟩ <;> omega
theorem half_le {W : Int} (hW : 200 ≤ W) : W.fdiv 2 ≤ W := by
  rw [Int.fdiv_eq_ediv_of_nonneg W (show (0 : Int) ≤ 2 by decide)]
  omega

def LostPost1 (w : World) (act dct : Addr) (T : Nat → Tok) (tg : Tok) (Wd z f : Int) (v : Value) (post : List (Addr × Obj)) : Prop :=
  ∃ Wd' c' t1 t2 t3 th' rc', v = .none ∧ OptInt th' ∧ OptInt rc' ∧ 200 ≤ Wd' ∧ Wd.fdiv 2 ≤ Wd' ∧ Wd' ≤ Wd ∧ 0 ≤ c' ∧ c' < Wd' ∧ post = ctl w act dct T (.int 100 tg) (.int Wd' t1) th' rc' (.int (f - z) t2) (.int c' t3)
theorem lost_post1 {w : World} {act dct : Addr} {T : Nat → Tok} {tg t1 t2 t3 : Tok} {Wd z f Wd' c' : Int} {th rc : Value} (h0 : OptInt th) (h9 : OptInt rc) (h1 : 200 ≤ Wd') (h2 : Wd.fdiv 2 ≤ Wd') (h5 : Wd' ≤ Wd) (h3 : 0 ≤ c') (h4 : c' < Wd') :
    LostPost1 w act dct T tg Wd z f .none (ctl w act dct T (.int 100 tg) (.int Wd' t1) th rc (.int (f - z) t2) (.int c' t3)) := ⟨_, _, _, _, _, _, _, rfl, h0, h9, h1, h2, h5, h3, h4, rfl⟩
theorem spec_lost (Wd f z c nt now : Int) (tW tf tz tc ts tn : Tok) (tg : Tok) (hth : OptInt th) (hrc : OptInt rc) (hne : act ≠ dct) (hW : 200 ≤ Wd) (hW' : Wd < 2 ^ 30) (hc : 0 ≤ c) (hc' : c < Wd) :
    Spec w 138 50 800 [.ref act, .int z tz, .int nt ts, .int now tn] (ctl w act dct T (.int 100 tg) (.int Wd tW) th rc (.int f tf) (.int c tc)) (fun _ => True)
      (LostPost1 w act dct T tg Wd z f) := by
  unfold Spec
  k_fill
  intro dp9z un9z gd9z cn9z cs9z a9z ccd9z cl9z outer9z A₀9z base9z h₀9z L9z m9z s9z Q9z E9z mean9z mg9z mb9z news9z rest9z hB9z hF9z hX9z hN9z hsub9z hrs9z hAp9z hRo9z hT9z hk9z hd9z hu9z hret9z
  first
  | (k_dflt (refine' fr_call hB9z hF9z hX9z hN9z hsub9z hrs9z hAp9z hT9z rfl rfl hk9z ?k6 ?k7 ?k8 ?k9 ?kB hret9z ?_ ?c2 ?c3 ?c4 ?c5; (case k6 => k_is); (case k7 => k_is); (case k8 => ktr_room); (case k9 => exact BindsTo.of_eq rfl); (case c5 => decide); (case kB => exact locs rfl); (case c2 => exact rfl); (case c3 => exact rfl); (case c4 => exact rfl))
     k_whole
     intro g9z' L9z' h9z' tk9z' st9z' hR9z' F9z' N9z' B9z' X9z' T9z'
     have hRo9z' := hRo9z g9z' st9z' hR9z'
     (try dsimp only at hRo9z')
     clear hB9z hF9z hX9z hN9z hsub9z hrs9z hAp9z hRo9z hT9z hret9z st9z' hR9z')
  | (k_dflt (refine' fr_callC hB9z hF9z hX9z hN9z hsub9z hrs9z hAp9z hT9z rfl rfl hk9z ?k6 ?k7 ?k8 ?k9 ?kB ?kD hret9z ?_ ?c2 ?c3 ?c4; (case k6 => k_is); (case k7 => k_is); (case k8 => ktr_room); (case k9 => exact BindsTo.of_eq rfl); (case kB => exact rfl); (case kD => decide +kernel); (case c2 => exact rfl); (case c3 => exact rfl); (case c4 => exact rfl))
     k_whole
     intro g9z' L9z' h9z' tk9z' cells9z' st9z' hR9z' F9z' N9z' Y9z' B9z' X9z' T9z' l19z
     have hRo9z' := hRo9z g9z' st9z' hR9z'
     (try dsimp only at hRo9z')
     clear hB9z hF9z hX9z hN9z hsub9z hrs9z hAp9z hRo9z hT9z hret9z st9z' hR9z'
     (try k_lt l19z)
     k_cells Y9z'
     (try dsimp only [List.cons_append, List.nil_append] at N9z'))
  (try dsimp only)
  (try k_fold)
  refine gen_Q fun Q0 hQ0 => ?_
  (repeat' (first | (k_unfold; (try dsimp only)) | (k_end; wrow_close) | (with_reducible first | (k_here; (show wpAny _ _ (call (Value.ref 124) _) _ _ _); k_dflt (refine' Spec.useG (spec_widen _ _ _ _ _ _ _ _ _ _ _ _ _ _ ?wne ?wW ?wW2 ?wz ?wz2 ?wc ?wc2) ?zB ?zF ?zX ?zN ?zP ?zA ?zR ?zT ?zk ?zd ?zu ?_); top_raise; (case zP => ktr_rel); (case wne => k_ne); (case wW | wW2 | wz | wz2 | wc | wc2 => assumption); top_raiseB; top_args; k_dflt (obtain ⟨Wd', cr', ta', tc'', e1', hW1', hW2', hc1', hc2', e2'⟩ := P'; top_argsB)) | (k_here; (show wpAny _ _ (call (Value.ref 89) _) _ _ _); k_dflt (refine' Spec.useG (spec_slow_start _ _ _ _ _ _ _ _ _ _ _ ?sth ?sne) ?zB ?zF ?zX ?zN ?zP ?zA ?zR ?zT ?zk ?zd ?zu ?_); top_raise; (case zP => ktr_rel); (case sth => assumption); (case sne => k_ne); top_raiseB; top_args; k_dflt (obtain ⟨b', e1', e2'⟩ := P'; top_argsB)) | (k_here; (show wpAny _ _ (call (Value.ref 96) _) _ _ _); k_dflt (refine' Spec.useG (spec_in_recovery _ _ _ _ _ _ _ _ _ _ _ _ ?irc ?ine) ?zB ?zF ?zX ?zN ?zP ?zA ?zR ?zT ?zk ?zd ?zu ?_); top_raise; (case zP => ktr_rel); (case irc => assumption); (case ine => k_ne); top_raiseB; top_args; k_dflt (obtain ⟨b', e1', e2'⟩ := P'; top_argsB))) | walk1 | dsimp only | (leave1; try dsimp only) | fail "no step"))
  all_goals (try dsimp only)
  all_goals first
    | exact hQ0 _ _ (ctl_end (by k_asm) (by k_asm) (by k_mem) (by k_mem) (lost_post1 (.int _ _) (.int _ _) (half_law hW).1 (half_law hW).2.1 (half_law hW).2.2 (Int.le_refl 0) (Int.lt_of_lt_of_le (by decide) (half_law hW).1)))
    | exact hQ0 _ _ (ctl_end (by k_asm) (by k_asm) (by k_mem) (by k_mem) (lost_post1 hth hrc hW (half_le hW) (Int.le_refl _) hc hc'))
end
end
end

section
open PySem PySem.W PyProof.Rows PySem.Calls
set_option maxRecDepth 100000
set_option maxHeartbeats 8000000
set_option linter.unusedVariables false
section
theorem fresh_Pk : True := by
  w_top off
  exact trivial



abbrev tupO (vs : List Value) : Obj := { cls := .type "tuple", data := .seq vs.toArray }
theorem two_end {g : Heap} {L' : Addr} {s₁ : Shared} {h' : Heap} {tk' : Nat} {m' : Str → Option Value} {news : List (Addr × Obj)} {v : Value} {Post : Value → List (Addr × Obj) → Prop} {p q : Addr × Obj}
    (F : Fr g L' h' m') (N : News g L' h' news) (h1 : p ∈ news) (h2 : q ∈ news) (hp : Post v [p, q]) : LeafQ g L' s₁ Post v { s₁ with heap := h', toks := tk' } := LeafQ.of F N (sub_cons h1 (sub_cons h2 sub_nil)) hp

theorem spec_any_eliciting (w : World) (afr atp : Addr) (t : Tok) (c : Nat) (hne : afr ≠ atp) :
    Spec w 172 30 600 [.ref afr] [(afr, W.listOf #[.ref atp] c), (atp, tupO [.str (Str.ofString "ping") t])] (fun _ => True)
      (fun v post => v = .bool true ∧ post = [(afr, W.listOf #[.ref atp] c), (atp, tupO [.str (Str.ofString "ping") t])]) := by
  unfold Spec
  k_fill
  intro dp9z un9z gd9z cn9z cs9z a9z ccd9z cl9z outer9z A₀9z base9z h₀9z L9z m9z s9z Q9z E9z mean9z mg9z mb9z news9z rest9z hB9z hF9z hX9z hN9z hsub9z hrs9z hAp9z hRo9z hT9z hk9z hd9z hu9z hret9z
  first
  | (k_dflt (refine' fr_call hB9z hF9z hX9z hN9z hsub9z hrs9z hAp9z hT9z rfl rfl hk9z ?k6 ?k7 ?k8 ?k9 ?kB hret9z ?_ ?c2 ?c3 ?c4 ?c5; (case k6 => k_is); (case k7 => k_is); (case k8 => ktr_room); (case k9 => exact BindsTo.of_eq rfl); (case c5 => decide); (case kB => exact locs rfl); (case c2 => exact rfl); (case c3 => exact rfl); (case c4 => exact rfl))
     k_whole
     intro g9z' L9z' h9z' tk9z' st9z' hR9z' F9z' N9z' B9z' X9z' T9z'
     have hRo9z' := hRo9z g9z' st9z' hR9z'
     (try dsimp only at hRo9z')
     clear hB9z hF9z hX9z hN9z hsub9z hrs9z hAp9z hRo9z hT9z hret9z st9z' hR9z')
  | (k_dflt (refine' fr_callC hB9z hF9z hX9z hN9z hsub9z hrs9z hAp9z hT9z rfl rfl hk9z ?k6 ?k7 ?k8 ?k9 ?kB ?kD hret9z ?_ ?c2 ?c3 ?c4; (case k6 => k_is); (case k7 => k_is); (case k8 => ktr_room); (case k9 => exact BindsTo.of_eq rfl); (case kB => exact rfl); (case kD => decide +kernel); (case c2 => exact rfl); (case c3 => exact rfl); (case c4 => exact rfl))
     k_whole
     intro g9z' L9z' h9z' tk9z' cells9z' st9z' hR9z' F9z' N9z' Y9z' B9z' X9z' T9z' l19z
     have hRo9z' := hRo9z g9z' st9z' hR9z'
     (try dsimp only at hRo9z')
     clear hB9z hF9z hX9z hN9z hsub9z hrs9z hAp9z hRo9z hT9z hret9z st9z' hR9z'
     (try k_lt l19z)
     k_cells Y9z'
     (try dsimp only [List.cons_append, List.nil_append] at N9z'))
  (try dsimp only)
  (try k_fold)
  refine gen_Q fun Q0 hQ0 => ?_
  (repeat' (first | (k_unfold; (try dsimp only)) | (k_end; wrow_close) | (with_reducible first | (k_here; (show wpAny _ _ (compareOp CmpOp.NotIn (Value.str _ _) (Value.ref _)) _ _ _); k_dflt (refine' notin_tuple_strs ?k1 ?k2 ?_; (case k1 => exact kun_topT (by k_asm) (by k_asm) (by k_is)); (case k2 => kde_strs); k_whole))) | walk1 | dsimp only | (leave1; try dsimp only) | fail "no step"))
  all_goals (try dsimp only)
  all_goals exact hQ0 _ _ (two_end (by k_asm) (by k_asm) (by k_mem) (by k_mem) ⟨rfl, rfl⟩)
theorem spec_any_in_flight (w : World) (afr atp : Addr) (t : Tok) (c : Nat) (hne : afr ≠ atp) :
    Spec w 177 30 600 [.ref afr] [(afr, W.listOf #[.ref atp] c), (atp, tupO [.str (Str.ofString "ping") t])] (fun _ => True)
      (fun v post => v = .bool true ∧ post = [(afr, W.listOf #[.ref atp] c), (atp, tupO [.str (Str.ofString "ping") t])]) := by
  unfold Spec
  k_fill
  intro dp9z un9z gd9z cn9z cs9z a9z ccd9z cl9z outer9z A₀9z base9z h₀9z L9z m9z s9z Q9z E9z mean9z mg9z mb9z news9z rest9z hB9z hF9z hX9z hN9z hsub9z hrs9z hAp9z hRo9z hT9z hk9z hd9z hu9z hret9z
  first
  | (k_dflt (refine' fr_call hB9z hF9z hX9z hN9z hsub9z hrs9z hAp9z hT9z rfl rfl hk9z ?k6 ?k7 ?k8 ?k9 ?kB hret9z ?_ ?c2 ?c3 ?c4 ?c5; (case k6 => k_is); (case k7 => k_is); (case k8 => ktr_room); (case k9 => exact BindsTo.of_eq rfl); (case c5 => decide); (case kB => exact locs rfl); (case c2 => exact rfl); (case c3 => exact rfl); (case c4 => exact rfl))
     k_whole
     intro g9z' L9z' h9z' tk9z' st9z' hR9z' F9z' N9z' B9z' X9z' T9z'
     have hRo9z' := hRo9z g9z' st9z' hR9z'
     (try dsimp only at hRo9z')
     clear hB9z hF9z hX9z hN9z hsub9z hrs9z hAp9z hRo9z hT9z hret9z st9z' hR9z')
  | (k_dflt (refine' fr_callC hB9z hF9z hX9z hN9z hsub9z hrs9z hAp9z hT9z rfl rfl hk9z ?k6 ?k7 ?k8 ?k9 ?kB ?kD hret9z ?_ ?c2 ?c3 ?c4; (case k6 => k_is); (case k7 => k_is); (case k8 => ktr_room); (case k9 => exact BindsTo.of_eq rfl); (case kB => exact rfl); (case kD => decide +kernel); (case c2 => exact rfl); (case c3 => exact rfl); (case c4 => exact rfl))
     k_whole
     intro g9z' L9z' h9z' tk9z' cells9z' st9z' hR9z' F9z' N9z' Y9z' B9z' X9z' T9z' l19z
     have hRo9z' := hRo9z g9z' st9z' hR9z'
     (try dsimp only at hRo9z')
     clear hB9z hF9z hX9z hN9z hsub9z hrs9z hAp9z hRo9z hT9z hret9z st9z' hR9z'
     (try k_lt l19z)
     k_cells Y9z'
     (try dsimp only [List.cons_append, List.nil_append] at N9z'))
  (try dsimp only)
  (try k_fold)
  refine gen_Q fun Q0 hQ0 => ?_
  (repeat' (first | (k_unfold; (try dsimp only)) | (k_end; wrow_close) | (with_reducible first | (k_here; (show wpAny _ _ (compareOp CmpOp.NotIn (Value.str _ _) (Value.ref _)) _ _ _); k_dflt (refine' notin_tuple_strs ?k1 ?k2 ?_; (case k1 => exact kun_topT (by k_asm) (by k_asm) (by k_is)); (case k2 => kde_strs); k_whole))) | walk1 | dsimp only | (leave1; try dsimp only) | fail "no step"))
  all_goals (try dsimp only)
  all_goals exact hQ0 _ _ (two_end (by k_asm) (by k_asm) (by k_mem) (by k_mem) ⟨rfl, rfl⟩)
end
end

section
open PySem PySem.W PyProof.Rows PySem.Calls LCg LCt
set_option maxRecDepth 100000
set_option maxHeartbeats 8000000
set_option linter.unusedVariables false
section

section
variable {prog : Program} {w : World} {A : Around} {E : Value → Shared → Prop} {s : Shared} {h₀ : Heap} {L : Addr} {m : Str → Option Value} {env : Env} {ct elt : Expr} {x : Str} {scope : Scope} {cl : List (Str × Addr)}
  {S : List (Addr × Obj) → Prop} {P : Nat → Value → Prop} {Fin : List Value → List (Addr × Obj) → Prop} {n : Nat} {news : List (Addr × Obj)}
theorem compEnd_mono {s₁ s₂ : Shared} {I C D : Addr} {oI oC oD : Obj} {rest rest' : Value → List (Addr × Obj) → Prop} {y : Value} (h : CompEnd h₀ L m s₁ I oI C oC D oD S rest y s₂) (hr : ∀ nw, rest y nw → rest' y nw) :
    CompEnd h₀ L m s₁ I oI C oC D oD S rest' y s₂ := by
  obtain ⟨h', tk, news', e, F, N, off, hS, r⟩ := h
  exact ⟨h', tk, news', e, F, N, off, hS, hr _ r⟩

/-- a comprehension with a test, by what holds between its turns -/
theorem compT_inv (J : Nat → List Value → List (Addr × Obj) → Prop) (h0 : J 0 [] news)
    (step : ∀ i ys nw v I oI C oC D m₂ h tk (E' : Value → Shared → Prop), i < n → J i ys nw → P i v → NsObj oC m₂ → m₂ x = some v → Fr h₀ L h m → News h₀ L h ((I, oI) :: (C, oC) :: (D, lst ys) :: nw) → Off3 I C D nw → ((@Ne Nat I C) ∧ (@Ne Nat I D) ∧ (@Ne Nat C D)) →
      wpAny (model prog w) A (isTrue ct (compEnvC scope cl C env) (eval ct (compEnvC scope cl C env))) (fun ok s' => if ok = true then
        wpAny (model prog w) A (eval elt (compEnvC scope cl C env)) (CompEnd h₀ L m { s with heap := h, toks := tk } I oI C oC D (lst ys) S (fun y news' => J (i + 1) (ys ++ [y]) news')) E' s'
        else CompEnd h₀ L m { s with heap := h, toks := tk } I oI C oC D (lst ys) S (fun _ news' => J (i + 1) ys news') Value.none s') E' { s with heap := h, toks := tk })
    (fin : ∀ ys nw, J n ys nw → Fin ys nw) : CompRestT prog w A h₀ L m env ct elt x scope cl s S P Fin n 0 [] news := by
  have all : ∀ k i ys nw, i + k = n → J i ys nw → CompRestT prog w A h₀ L m env ct elt x scope cl s S P Fin k i ys nw := by
    intro k
    induction k with
    | zero => intro i ys nw e hJ; exact .zero (fin _ _ ((by omega : i = n) ▸ hJ))
    | succ k ih =>
      intro i ys nw e hJ
      refine .succ fun v I oI C oC D m₂ h tk E' hP hC hx F N off hne => ?_
      refine wpAny_mono (step i ys nw v I oI C oC D m₂ h tk E' (by omega) hJ hP hC hx F N off hne) (fun ok s' hs => ?_) fun _ _ e => e
      split at hs
      · rename_i hok
        rw [if_pos hok]
        exact wpAny_mono hs (fun y s'' hy => compEnd_mono hy fun nw' r => ih _ _ _ (by omega) r) fun _ _ e => e
      · rename_i hok
        rw [if_neg hok]
        exact compEnd_mono hs fun nw' r => ih _ _ _ (by omega) r
  exact all n 0 [] news (by omega) h0

theorem comp_inv (J : Nat → List Value → List (Addr × Obj) → Prop) (h0 : J 0 [] news)
    (step : ∀ i ys nw v I oI C oC D m₂ h tk (E' : Value → Shared → Prop), i < n → J i ys nw → P i v → NsObj oC m₂ → m₂ x = some v → Fr h₀ L h m → News h₀ L h ((I, oI) :: (C, oC) :: (D, lst ys) :: nw) → Off3 I C D nw → ((@Ne Nat I C) ∧ (@Ne Nat I D) ∧ (@Ne Nat C D)) →
      wpAny (model prog w) A (eval elt (compEnvC scope cl C env)) (CompEnd h₀ L m { s with heap := h, toks := tk } I oI C oC D (lst ys) S (fun y news' => J (i + 1) (ys ++ [y]) news')) E' { s with heap := h, toks := tk })
    (fin : ∀ ys nw, J n ys nw → Fin ys nw) : CompRest prog w A h₀ L m env elt x scope cl s S P Fin n 0 [] news := by
  have all : ∀ k i ys nw, i + k = n → J i ys nw → CompRest prog w A h₀ L m env elt x scope cl s S P Fin k i ys nw := by
    intro k
    induction k with
    | zero => intro i ys nw e hJ; exact .zero (fin _ _ ((by omega : i = n) ▸ hJ))
    | succ k ih =>
      intro i ys nw e hJ
      refine .succ fun v I oI C oC D m₂ h tk E' hP hC hx F N off hne => ?_
      exact wpAny_mono (step i ys nw v I oI C oC D m₂ h tk E' (by omega) hJ hP hC hx F N off hne) (fun y s'' hy => compEnd_mono hy fun nw' r => ih _ _ _ (by omega) r) fun _ _ e => e
  exact all n 0 [] news (by omega) h0
end
section
variable {prog : Program} {w : World} {A : Around} {E : Value → Shared → Prop} {s : Shared} {h₀ : Heap} {L : Addr} {m : Str → Option Value} {env : Env} {ct elt : Expr} {x : Str} {scope : Scope} {cl : List (Str × Addr)}
  {S : List (Addr × Obj) → Prop} {P : Nat → Value → Prop} {Fin : List Value → List (Addr × Obj) → Prop} {n : Nat} {news : List (Addr × Obj)}
/-- the turns leave the ledger as it is -/
theorem compT_keep (J : Nat → List Value → Prop) (h0 : J 0 [])
    (step : ∀ i ys v I oI C oC D m₂ h tk (E' : Value → Shared → Prop), i < n → J i ys → P i v → NsObj oC m₂ → m₂ x = some v → Fr h₀ L h m → News h₀ L h ((I, oI) :: (C, oC) :: (D, lst ys) :: news) → Off3 I C D news → ((@Ne Nat I C) ∧ (@Ne Nat I D) ∧ (@Ne Nat C D)) →
      wpAny (model prog w) A (isTrue ct (compEnvC scope cl C env) (eval ct (compEnvC scope cl C env))) (fun ok s' => if ok = true then
        wpAny (model prog w) A (eval elt (compEnvC scope cl C env)) (CompEnd h₀ L m { s with heap := h, toks := tk } I oI C oC D (lst ys) S (fun y nw' => nw' = news ∧ J (i + 1) (ys ++ [y]))) E' s'
        else CompEnd h₀ L m { s with heap := h, toks := tk } I oI C oC D (lst ys) S (fun _ nw' => nw' = news ∧ J (i + 1) ys) Value.none s') E' { s with heap := h, toks := tk })
    (fin : ∀ ys, J n ys → Fin ys news) : CompRestT prog w A h₀ L m env ct elt x scope cl s S P Fin n 0 [] news :=
  compT_inv (fun i ys nw => nw = news ∧ J i ys) ⟨rfl, h0⟩ (fun i ys nw v I oI C oC D m₂ h tk E' hi hJ hP hC hx F N off hne => by obtain ⟨rfl, hJ⟩ := hJ; exact step i ys v I oI C oC D m₂ h tk E' hi hJ hP hC hx F N off hne) fun ys nw hJ => by obtain ⟨rfl, hJ⟩ := hJ; exact fin ys hJ
theorem comp_keep (J : Nat → List Value → Prop) (h0 : J 0 [])
    (step : ∀ i ys v I oI C oC D m₂ h tk (E' : Value → Shared → Prop), i < n → J i ys → P i v → NsObj oC m₂ → m₂ x = some v → Fr h₀ L h m → News h₀ L h ((I, oI) :: (C, oC) :: (D, lst ys) :: news) → Off3 I C D news → ((@Ne Nat I C) ∧ (@Ne Nat I D) ∧ (@Ne Nat C D)) →
      wpAny (model prog w) A (eval elt (compEnvC scope cl C env)) (CompEnd h₀ L m { s with heap := h, toks := tk } I oI C oC D (lst ys) S (fun y nw' => nw' = news ∧ J (i + 1) (ys ++ [y]))) E' { s with heap := h, toks := tk })
    (fin : ∀ ys, J n ys → Fin ys news) : CompRest prog w A h₀ L m env elt x scope cl s S P Fin n 0 [] news :=
  comp_inv (fun i ys nw => nw = news ∧ J i ys) ⟨rfl, h0⟩ (fun i ys nw v I oI C oC D m₂ h tk E' hi hJ hP hC hx F N off hne => by obtain ⟨rfl, hJ⟩ := hJ; exact step i ys v I oI C oC D m₂ h tk E' hi hJ hP hC hx F N off hne) fun ys nw hJ => by obtain ⟨rfl, hJ⟩ := hJ; exact fin ys hJ
/-- a turn's end, the ledger as it was -/
theorem compEnd_keep {I C D : Addr} {s₁ : Shared} {oI oC oD : Obj} {R : Value → Prop} {y : Value} {h' : Heap} {tk : Nat} {all : List (Addr × Obj)}
    (F : Fr h₀ L h' m) (N : News h₀ L h' all) (sub : ∀ p ∈ (I, oI) :: (C, oC) :: (D, oD) :: news, p ∈ all) (off : Off3 I C D news) (hS : S news) (r : R y) :
    CompEnd h₀ L m s₁ I oI C oC D oD S (fun y nw' => nw' = news ∧ R y) y { s₁ with heap := h', toks := tk } := .intro F N news sub off hS ⟨rfl, r⟩
end

section
variable {prog : Program} {w : World} {A : Around} {E : Value → Shared → Prop} {s : Shared} {h₀ : Heap} {L : Addr} {m : Str → Option Value} {env : Env}

/-- the source is a dict's values -/
def SrcVT {K : Type} [DecidableEq K] (knd : KeyKind prog w K) (A : Around) (h₀ : Heap) (L : Addr) (m : Str → Option Value) (env : Env) (ct elt : Expr) (x : Str) (scope : Scope) (cl : List (Str × Addr)) (Q : Value → Shared → Prop) (xv : Value) (s₁ : Shared) : Prop :=
  ∃ (v d : Addr) (o : Obj) (kvs : List (K × Value)) (news : List (Addr × Obj)), xv = .ref v ∧ A.handled = none ∧ Fr h₀ L s₁.heap m ∧ News h₀ L s₁.heap news ∧ (v, ({ cls := .type "dict_values", data := .fields #[.ref d] } : Obj)) ∈ news ∧ (d, o) ∈ news ∧ o.IsDictOf knd kvs ∧ kvs.length ≤ sizeLine ∧
    ∀ s₂ : Shared, (∃ h, s₂ = { s₁ with heap := h }) → CompRestT prog w A h₀ L m env ct elt x scope cl s₂ (fun nw => (d, o) ∈ nw) (fun i u => ∃ k, kvs[i]? = some (k, u)) (FinE h₀ L m s₂ Q) kvs.length 0 [] news
theorem ListComp_VT {K : Type} [DecidableEq K] {knd : KeyKind prog w K} {ct elt iter : Expr} {x : Str} {px : Pos} {scope : Scope} {cl : List (Str × Addr)} {pos : Pos} {Q : Value → Shared → Prop} (F₀ : Fr h₀ L s.heap m)
    (hclos : closureFor scope env = pure cl) (hcell : ∀ y ∈ scope.names, y.2 ≠ .cell) (hkind : scope.kind = .function)
    (hnames : ∀ y ∈ scope.names, y.2 = .local → scope.names.lookup y.1 = some .local) (hx : scope.names.lookup x = some .local)
    (h : wpAny (model prog w) A (eval iter env) (SrcVT knd A h₀ L m env ct elt x scope cl Q) E s)
    (hs : ∀ x, foldedSetIterable iter env x = pure x := by intro _; rfl) :
    wpAny (model prog w) A (eval (.ListComp elt [⟨.Name x px, iter, [ct], 0⟩] scope pos) env) Q E s := by
  rw [eval_ListComp]
  refine wpAny_comprehension_free (use := none) rfl hs hclos hkind hnames (wpAny_mono h (fun xv s₁ h₁ => ?_) fun _ _ e => e)
  obtain ⟨v, d, o, kvs, news, rfl, hh, F, N, hv, hd, hD, hsz, R⟩ := h₁
  obtain ⟨ep, hat⟩ := (kda_dict N hd hD).dictAt
  have hdl : d < s₁.heap.objs.size := Heap.lt_size (N _ hd).1
  refine wpAny_pyIter_values ⟨_, (N _ hv).1, rfl, rfl⟩ hat ?_
  have up : ∀ b o', s₁.heap.get? b = some o' → (s₁.heap.push { cls := .type "dict_valueiterator", data := .fields #[.ref d, .int 0 0, .int kvs.length 0, .int ep 0] }).get? b = some o' := fun b o' e => Heap.get?_push_of_some _ e
  refine block_T (Walks.dictValues hh s₁.heap.objs.size d (Nat.ne_of_lt hdl) kvs ep) hsz (fun i h st => by obtain ⟨o', e, _⟩ := st.1; exact ⟨o', e⟩) (fun i h h' oI nw st e e' k N' S' => ⟨by obtain ⟨o', q, r⟩ := st.1; rw [e] at q; cases q; exact ⟨oI, e', r⟩, ?_⟩) hcell hkind hx
    ⟨⟨_, Heap.get?_push_size _ rfl, rfl, rfl⟩, hat.push _⟩ (fun b hb => ?_) (F.keeps up) (N.grown up) (Nat.ne_of_lt F.ns.lt) (next_is_new F) (fun p hp => Nat.ne_of_lt (Heap.lt_size (N p hp).1)) hd (R _ ⟨_, rfl⟩) ?_
  · obtain ⟨o₁, es, q, r⟩ := hat
    have q' := (N _ hd).1
    rw [q] at q'
    cases q'
    exact ⟨_, es, (N' _ S').1, r⟩
  · show b < (s₁.heap.push _).objs.size
    rw [Heap.size_push]
    rcases List.mem_cons.mp hb with rfl | hb
    · exact Nat.lt_succ_self _
    · rw [List.mem_singleton.mp hb]; exact Nat.lt_succ_of_lt hdl
  · intro D C h tk m' ys news' F' N' o1 hn hC₀ hD₀ hCL hDL hCD offC fin
    refine ⟨m', hn, fun h'' hs'' => fin D h'' tk (F'.change hs'' hCL hC₀) (fun p hp => ?_) o1⟩
    refine ⟨hs''.extBut _ _ ?_ (N' p hp).1, (N' p hp).2⟩
    rcases List.mem_cons.mp hp with rfl | hp
    · exact Ne.symm hCD
    · exact offC p hp

/-- the source is a dict's values -/
def SrcV {K : Type} [DecidableEq K] (knd : KeyKind prog w K) (A : Around) (h₀ : Heap) (L : Addr) (m : Str → Option Value) (env : Env) (elt : Expr) (x : Str) (scope : Scope) (cl : List (Str × Addr)) (Q : Value → Shared → Prop) (xv : Value) (s₁ : Shared) : Prop :=
  ∃ (v d : Addr) (o : Obj) (kvs : List (K × Value)) (news : List (Addr × Obj)), xv = .ref v ∧ A.handled = none ∧ Fr h₀ L s₁.heap m ∧ News h₀ L s₁.heap news ∧ (v, ({ cls := .type "dict_values", data := .fields #[.ref d] } : Obj)) ∈ news ∧ (d, o) ∈ news ∧ o.IsDictOf knd kvs ∧ kvs.length ≤ sizeLine ∧
    ∀ s₂ : Shared, (∃ h, s₂ = { s₁ with heap := h }) → CompRest prog w A h₀ L m env elt x scope cl s₂ (fun nw => (d, o) ∈ nw) (fun i u => ∃ k, kvs[i]? = some (k, u)) (FinE h₀ L m s₂ Q) kvs.length 0 [] news
theorem ListComp_V {K : Type} [DecidableEq K] {knd : KeyKind prog w K} {elt iter : Expr} {x : Str} {px : Pos} {scope : Scope} {cl : List (Str × Addr)} {pos : Pos} {Q : Value → Shared → Prop} (F₀ : Fr h₀ L s.heap m)
    (hclos : closureFor scope env = pure cl) (hcell : ∀ y ∈ scope.names, y.2 ≠ .cell) (hkind : scope.kind = .function)
    (hnames : ∀ y ∈ scope.names, y.2 = .local → scope.names.lookup y.1 = some .local) (hx : scope.names.lookup x = some .local)
    (h : wpAny (model prog w) A (eval iter env) (SrcV knd A h₀ L m env elt x scope cl Q) E s)
    (hs : ∀ x, foldedSetIterable iter env x = pure x := by intro _; rfl) :
    wpAny (model prog w) A (eval (.ListComp elt [⟨.Name x px, iter, [], 0⟩] scope pos) env) Q E s := by
  rw [eval_ListComp]
  refine wpAny_comprehension_free (use := none) rfl hs hclos hkind hnames (wpAny_mono h (fun xv s₁ h₁ => ?_) fun _ _ e => e)
  obtain ⟨v, d, o, kvs, news, rfl, hh, F, N, hv, hd, hD, hsz, R⟩ := h₁
  obtain ⟨ep, hat⟩ := (kda_dict N hd hD).dictAt
  have hdl : d < s₁.heap.objs.size := Heap.lt_size (N _ hd).1
  refine wpAny_pyIter_values ⟨_, (N _ hv).1, rfl, rfl⟩ hat ?_
  have up : ∀ b o', s₁.heap.get? b = some o' → (s₁.heap.push { cls := .type "dict_valueiterator", data := .fields #[.ref d, .int 0 0, .int kvs.length 0, .int ep 0] }).get? b = some o' := fun b o' e => Heap.get?_push_of_some _ e
  refine block_U (Walks.dictValues hh s₁.heap.objs.size d (Nat.ne_of_lt hdl) kvs ep) hsz (fun i h st => by obtain ⟨o', e, _⟩ := st.1; exact ⟨o', e⟩) (fun i h h' oI nw st e e' k N' S' => ⟨by obtain ⟨o', q, r⟩ := st.1; rw [e] at q; cases q; exact ⟨oI, e', r⟩, ?_⟩) hcell hkind hx
    ⟨⟨_, Heap.get?_push_size _ rfl, rfl, rfl⟩, hat.push _⟩ (fun b hb => ?_) (F.keeps up) (N.grown up) (Nat.ne_of_lt F.ns.lt) (next_is_new F) (fun p hp => Nat.ne_of_lt (Heap.lt_size (N p hp).1)) hd (R _ ⟨_, rfl⟩) ?_
  · obtain ⟨o₁, es, q, r⟩ := hat
    have q' := (N _ hd).1
    rw [q] at q'
    cases q'
    exact ⟨_, es, (N' _ S').1, r⟩
  · show b < (s₁.heap.push _).objs.size
    rw [Heap.size_push]
    rcases List.mem_cons.mp hb with rfl | hb
    · exact Nat.lt_succ_self _
    · rw [List.mem_singleton.mp hb]; exact Nat.lt_succ_of_lt hdl
  · intro D C h tk m' ys news' F' N' o1 hn hC₀ hD₀ hCL hDL hCD offC fin
    refine ⟨m', hn, fun h'' hs'' => fin D h'' tk (F'.change hs'' hCL hC₀) (fun p hp => ?_) o1⟩
    refine ⟨hs''.extBut _ _ ?_ (N' p hp).1, (N' p hp).2⟩
    rcases List.mem_cons.mp hp with rfl | hp
    · exact Ne.symm hCD
    · exact offC p hp
end
end
end

section
open PySem PySem.W PyProof.Rows PySem.Calls LCg LCt
set_option maxRecDepth 100000
set_option maxHeartbeats 8000000
set_option linter.unusedVariables false
section


/-- a turn's end: the iterator as it was, src with it -/
def ForEnd (h₀ : Heap) (L : Addr) (s₁ : Shared) (I : Addr) (oI : Obj) (src : List (Addr × Obj)) (J : (Str → Option Value) → List (Addr × Obj) → Prop) (s₂ : Shared) : Prop :=
  ∃ h' tk m' nw, s₂ = { s₁ with heap := h', toks := tk } ∧ Fr h₀ L h' m' ∧ News h₀ L h' ((I, oI) :: nw) ∧ (∀ p ∈ nw, p.1 ≠ I) ∧ (∀ p ∈ src, p ∈ nw) ∧ J m' nw
theorem ForEnd.of {h₀ : Heap} {L : Addr} {s₁ : Shared} {I : Addr} {oI : Obj} {src : List (Addr × Obj)} {J : (Str → Option Value) → List (Addr × Obj) → Prop} {h' : Heap} {tk : Nat} {m' : Str → Option Value} {all nw : List (Addr × Obj)}
    (F : Fr h₀ L h' m') (N : News h₀ L h' all) (hj : J m' nw) (hI : (I, oI) ∈ all) (hs : ∀ p ∈ nw, p ∈ all) (hn : ∀ p ∈ nw, p.1 ≠ I) (hsrc : ∀ p ∈ src, p ∈ nw) : ForEnd h₀ L s₁ I oI src J { s₁ with heap := h', toks := tk } :=
  ⟨h', tk, m', nw, rfl, F, fun p hp => by rcases List.mem_cons.mp hp with rfl | hp; exact N _ hI; exact N p (hs p hp), hn, hsrc, hj⟩
/-- how a turn ends -/
def ForQ (h₀ : Heap) (L : Addr) (s₁ : Shared) (I : Addr) (oI : Obj) (src : List (Addr × Obj)) (J : (Str → Option Value) → List (Addr × Obj) → Prop) (Q : Flow → Shared → Prop) (f : Flow) (s₂ : Shared) : Prop :=
  match f with
  | .ret v => Q (.ret v) s₂
  | .brk => Q .next s₂
  | _ => ForEnd h₀ L s₁ I oI src J s₂

section
variable {prog : Program} {w : World} {A : Around} {E : Value → Shared → Prop} {s : Shared} {h₀ : Heap} {env : Env} {x : Str} {body : List Stmt} {Q : Flow → Shared → Prop}

theorem for_walks {I : Addr} {fp : List Addr} {n : Nat} {P : Nat → Value → Prop} {St : Nat → Heap → Prop} {m : Str → Option Value} {news src : List (Addr × Obj)}
    (W : Walks prog w A I fp [I] n P St) (hI : I ∈ fp) (hIo : ∀ i h, St i h → ∃ o, h.get? I = some o) (hfp : ∀ b ∈ fp, b = I ∨ (∃ o, h₀.get? b = some o) ∨ ∃ o, (b, o) ∈ src) (hL : env.locals ∉ fp) (hI₀ : h₀.get? I = none)
    (J : Nat → (Str → Option Value) → List (Addr × Obj) → Prop) (hst : St 0 s.heap) (F : Fr h₀ env.locals s.heap m) (N : News h₀ env.locals s.heap news) (hnI : ∀ p ∈ news, p.1 ≠ I) (hsrc : ∀ p ∈ src, p ∈ news) (h0 : J 0 m news)
    (step : ∀ i v m₁ nw oI h tk, i < n → P i v → J i m₁ nw → (∀ p ∈ src, p ∈ nw) → (∀ p ∈ nw, p.1 ≠ I) → Fr h₀ env.locals h (fun y => if y = x then some v else m₁ y) → News h₀ env.locals h ((I, oI) :: nw) →
      wpAny (model prog w) A (execs body env) (ForQ h₀ env.locals { s with heap := h, toks := tk } I oI src (J (i + 1)) Q) E { s with heap := h, toks := tk })
    (done : ∀ h' tk m' nw, Fr h₀ env.locals h' m' → News h₀ env.locals h' nw → J n m' nw → Q .next { s with heap := h', toks := tk }) :
    LoopAtV prog w A h₀ env x body Q E (.ref I) s := by
  refine ⟨I, fp, [I], n, P, St, m, news, fun i m₁ nw => J i m₁ nw ∧ ∀ p ∈ src, p ∈ nw, rfl, W, hL, fun b hb => by rw [List.mem_singleton.mp hb]; exact hI₀, fun p hp hq => hnI p hp (List.mem_singleton.mp hq), hst, F, N, ⟨h0, hsrc⟩, ?_, ?_⟩
  · rintro i v m₁ nw s₁ own ⟨h, tk, rfl⟩ hi hP ⟨hJ, hS⟩ hoff hown hget hall hst₁ F₁ N₁
    obtain ⟨oI, hoI⟩ := hIo _ _ hst₁
    have hIown : (I, oI) ∈ own := hall I hI hI₀ oI hoI
    have N₂ : News h₀ env.locals h ((I, oI) :: nw) := fun p hp => by
      rcases List.mem_cons.mp hp with rfl | hp
      · exact N₁ _ (List.mem_append_left _ hIown)
      · exact N₁ p (List.mem_append_right _ hp)
    refine wpAny_mono (step i v m₁ nw oI h tk hi hP hJ hS (fun p hp e => hoff p hp (List.mem_singleton.mpr e)) F₁ N₂) (fun f s₂ hf => ?_) fun _ _ e => e
    have fin : ForEnd h₀ env.locals { s with heap := h, toks := tk } I oI src (J (i + 1)) s₂ → LoopStepU h₀ env.locals [I] own (fun m₁ nw => J (i + 1) m₁ nw ∧ ∀ p ∈ src, p ∈ nw) { s with heap := h, toks := tk } .next s₂ := by
      rintro ⟨h', tk', m', nw', e, F', N', hn', hs', hj'⟩
      refine ⟨rfl, h', tk', m', nw', e, F', fun p hp => ?_, fun p hp hq => hn' p hp (List.mem_singleton.mp hq), hj', hs'⟩
      rcases List.mem_append.mp hp with hp | hp
      · rcases hfp p.1 (hown p hp) with e1 | ⟨o, ho⟩ | ⟨o, ho⟩
        · have : p.2 = oI := by have := hget p hp; rw [e1] at this; exact Option.some.inj (this.symm.trans hoI)
          obtain ⟨a, o⟩ := p
          dsimp only at e1 this
          subst e1 this
          exact N' _ (.head _)
        · have h1 := (N₁ p (List.mem_append_left _ hp)).2.2
          rw [ho] at h1
          cases h1
        · have h1 := (N₁ _ (List.mem_append_right _ (hS _ ho))).1
          have h2 := hget p hp
          have : p.2 = o := Option.some.inj (h2.symm.trans h1)
          obtain ⟨a, o'⟩ := p
          dsimp only at this
          subst this
          exact N' _ (.tail _ (hs' _ ho))
      · exact N' p (.tail _ hp)
    cases f with
    | ret v => exact .ret hf
    | brk => exact .brk hf
    | next => exact .next (fin hf)
    | cont => exact .cont (fin hf)
  · rintro h' tk m' nw F' N' _ ⟨hJ, _⟩
    exact done h' tk m' nw F' N' hJ

theorem for_dict {K : Type} [DecidableEq K] {knd : KeyKind prog w K} {d : Addr} {o : Obj} {kvs : List (K × Value)} {m : Str → Option Value} {news : List (Addr × Obj)}
    (hh : A.handled = none) (F : Fr h₀ env.locals s.heap m) (N : News h₀ env.locals s.heap news) (hd : (d, o) ∈ news) (hD : o.IsDictOf knd kvs) (lo : (d == sysModules) = false)
    (J : Nat → (Str → Option Value) → List (Addr × Obj) → Prop) (h0 : J 0 m news)
    (step : ∀ i v k u m₁ nw I oI h tk, kvs[i]? = some (k, u) → knd.is k v = true → J i m₁ nw → (d, o) ∈ nw → (∀ p ∈ nw, p.1 ≠ I) → Fr h₀ env.locals h (fun y => if y = x then some v else m₁ y) → News h₀ env.locals h ((I, oI) :: nw) →
      wpAny (model prog w) A (execs body env) (ForQ h₀ env.locals { s with heap := h, toks := tk } I oI [(d, o)] (J (i + 1)) Q) E { s with heap := h, toks := tk })
    (done : ∀ h' tk m' nw, Fr h₀ env.locals h' m' → News h₀ env.locals h' nw → J kvs.length m' nw → Q .next { s with heap := h', toks := tk }) :
    wpAny (model prog w) A (pyIter (.ref d)) (fun it s₂ => LoopAtV prog w A h₀ env x body Q E it s₂) E s := by
  obtain ⟨ep, hat⟩ := (kda_dict N hd hD).dictAt
  have hdl : d < s.heap.objs.size := Heap.lt_size (N _ hd).1
  refine wpAny_pyIter_dict lo hat ?_
  refine for_walks (src := [(d, o)]) (Walks.dictKeys hh s.heap.objs.size d (Nat.ne_of_lt hdl) kvs ep) (.head _) (fun i h st => by obtain ⟨o', e, _⟩ := st.1; exact ⟨o', e⟩) (fun b hb => ?_) (fun hm => ?_) (next_is_new F) J
    ⟨⟨_, Heap.get?_push_size _ rfl, rfl, rfl⟩, hat.push _⟩ (F.push _) (fun p hp => ⟨Heap.get?_push_of_some _ (N p hp).1, (N p hp).2⟩) (fun p hp => Nat.ne_of_lt (Heap.lt_size (N p hp).1)) (sub_cons hd sub_nil) h0 ?_ done
  · rcases List.mem_cons.mp hb with rfl | hb
    · exact .inl rfl
    · exact .inr (.inr ⟨o, by rw [List.mem_singleton.mp hb]; exact .head _⟩)
  · rcases List.mem_cons.mp hm with e | hm
    · exact absurd F.ns.lt (e ▸ Nat.lt_irrefl _)
    · exact (N _ hd).2.1 (List.mem_singleton.mp hm).symm
  · intro i v m₁ nw oI h tk hi hP hJ hS hnI F₁ N₁
    obtain ⟨k, u, hk, hv⟩ := hP
    exact step i v k u m₁ nw _ oI h tk hk hv hJ (hS _ (.head _)) hnI F₁ N₁

theorem for_range {r : Addr} {n : Nat} {a b : Int} {t u v : Tok} {m : Str → Option Value} {news : List (Addr × Obj)}
    (hh : A.handled = none) (F : Fr h₀ env.locals s.heap m) (N : News h₀ env.locals s.heap news) (hr : IsRange s.heap r a b 1 t u v) (hsm : Builtin.Range.small a b 1 = true) (hn : Builtin.Range.rangeSize a b 1 = ((n : Nat) : Int))
    (J : Nat → (Str → Option Value) → List (Addr × Obj) → Prop) (h0 : J 0 m news)
    (step : ∀ i t m₁ nw I oI h tk, i < n → J i m₁ nw → (∀ p ∈ nw, p.1 ≠ I) → Fr h₀ env.locals h (fun y => if y = x then some (.int (a + (i : Int)) t) else m₁ y) → News h₀ env.locals h ((I, oI) :: nw) →
      wpAny (model prog w) A (execs body env) (ForQ h₀ env.locals { s with heap := h, toks := tk } I oI [] (J (i + 1)) Q) E { s with heap := h, toks := tk })
    (done : ∀ h' tk m' nw, Fr h₀ env.locals h' m' → News h₀ env.locals h' nw → J n m' nw → Q .next { s with heap := h', toks := tk }) :
    wpAny (model prog w) A (pyIter (.ref r)) (fun it s₂ => LoopAtV prog w A h₀ env x body Q E it s₂) E s := by
  refine wpAny_pyIter_range hr hsm ?_
  refine for_walks (src := []) (range_walks hh a n) (.head _) (fun i h st => ⟨_, st⟩) (fun b hb => .inl (List.mem_singleton.mp hb)) (fun hm => ?_) (next_is_new F) J
    (by show IsRangeIter _ _ _ _ _; rw [hn]; simpa using Heap.get?_push_size _ rfl) (F.push _) (fun p hp => ⟨Heap.get?_push_of_some _ (N p hp).1, (N p hp).2⟩) (fun p hp => Nat.ne_of_lt (Heap.lt_size (N p hp).1)) sub_nil h0 ?_ done
  · exact absurd F.ns.lt ((List.mem_singleton.mp hm) ▸ Nat.lt_irrefl _)
  · intro i v m₁ nw oI h tk hi hP hJ hS hnI F₁ N₁
    obtain ⟨t', rfl⟩ := hP
    exact step i t' m₁ nw _ oI h tk hi hJ hnI F₁ N₁

theorem for_list {l : Addr} {o : Obj} {vs : Array Value} {m : Str → Option Value} {news : List (Addr × Obj)}
    (hh : A.handled = none) (F : Fr h₀ env.locals s.heap m) (N : News h₀ env.locals s.heap news) (hl : (l, o) ∈ news) (hc : o.cls = .type "list") {k : Nat} (hv : o.data = .seq vs k)
    (J : Nat → (Str → Option Value) → List (Addr × Obj) → Prop) (h0 : J 0 m news)
    (step : ∀ i v m₁ nw I oI h tk, vs[i]? = some v → J i m₁ nw → (l, o) ∈ nw → (∀ p ∈ nw, p.1 ≠ I) → Fr h₀ env.locals h (fun y => if y = x then some v else m₁ y) → News h₀ env.locals h ((I, oI) :: nw) →
      wpAny (model prog w) A (execs body env) (ForQ h₀ env.locals { s with heap := h, toks := tk } I oI [(l, o)] (J (i + 1)) Q) E { s with heap := h, toks := tk })
    (done : ∀ h' tk m' nw, Fr h₀ env.locals h' m' → News h₀ env.locals h' nw → J vs.size m' nw → Q .next { s with heap := h', toks := tk }) :
    wpAny (model prog w) A (pyIter (.ref l)) (fun it s₂ => LoopAtV prog w A h₀ env x body Q E it s₂) E s := by
  have hls : s.heap.IsList l vs := ⟨o, (N _ hl).1, hc, k, hv⟩
  have hdl : l < s.heap.objs.size := Heap.lt_size (N _ hl).1
  refine wpAny_pyIter_list hls ?_
  refine for_walks (src := [(l, o)]) (Walks.list hh s.heap.objs.size l (Nat.ne_of_lt hdl) vs) (.head _) (fun i h st => by obtain ⟨o', e, _⟩ := st.1; exact ⟨o', e⟩) (fun b hb => ?_) (fun hm => ?_) (next_is_new F) J
    ⟨⟨_, Heap.get?_push_size _ rfl, rfl, rfl⟩, hls.push _⟩ (F.push _) (fun p hp => ⟨Heap.get?_push_of_some _ (N p hp).1, (N p hp).2⟩) (fun p hp => Nat.ne_of_lt (Heap.lt_size (N p hp).1)) (sub_cons hl sub_nil) h0 ?_ done
  · rcases List.mem_cons.mp hb with rfl | hb
    · exact .inl rfl
    · exact .inr (.inr ⟨o, by rw [List.mem_singleton.mp hb]; exact .head _⟩)
  · rcases List.mem_cons.mp hm with e | hm
    · exact absurd F.ns.lt (e ▸ Nat.lt_irrefl _)
    · exact (N _ hl).2.1 (List.mem_singleton.mp hm).symm
  · intro i v m₁ nw oI h tk hi hP hJ hS hnI F₁ N₁
    exact step i v m₁ nw _ oI h tk hP hJ (hS _ (.head _)) hnI F₁ N₁

theorem for_dict' {K : Type} [DecidableEq K] {knd : KeyKind prog w K} {d : Addr} {o : Obj} {kvs : List (K × Value)} {m : Str → Option Value} {news : List (Addr × Obj)}
    (hh : A.handled = none) (F : Fr h₀ env.locals s.heap m) (N : News h₀ env.locals s.heap news) (hd : (d, o) ∈ news) (hD : o.IsDictOf knd kvs) (lo : (d == sysModules) = false) (xs : List Str) (hx : x ∈ xs)
    (J : Nat → (Str → Option Value) → List (Addr × Obj) → Prop) (h0 : J 0 m news)
    (step : ∀ i v k u m₁ nw I oI h tk, kvs[i]? = some (k, u) → knd.is k v = true → J i m₁ nw → (d, o) ∈ nw → (∀ p ∈ nw, p.1 ≠ I) → Fr h₀ env.locals h (fun y => if y = x then some v else tmp m₁ m xs y) → News h₀ env.locals h ((I, oI) :: nw) →
      wpAny (model prog w) A (execs body env) (ForQ h₀ env.locals { s with heap := h, toks := tk } I oI [(d, o)] (fun m' nw' => J (i + 1) m' nw' ∧ ∀ y, y ∉ xs → m' y = m y) Q) E { s with heap := h, toks := tk })
    (done : ∀ h' tk m' nw, Fr h₀ env.locals h' (tmp m' m xs) → News h₀ env.locals h' nw → J kvs.length m' nw → Q .next { s with heap := h', toks := tk }) :
    wpAny (model prog w) A (pyIter (.ref d)) (fun it s₂ => LoopAtV prog w A h₀ env x body Q E it s₂) E s :=
  for_dict hh F N hd hD lo (fun i m₁ nw => J i m₁ nw ∧ ∀ y, y ∉ xs → m₁ y = m y) ⟨h0, fun _ _ => rfl⟩
    (fun i v k u m₁ nw I oI h tk hk hv hJ hd' hn F₁ N₁ => step i v k u m₁ nw I oI h tk hk hv hJ.1 hd' hn (by rw [tmp_eq hJ.2]; exact F₁) N₁) fun h' tk m' nw F' N' hJ => done h' tk m' nw (by rw [tmp_eq hJ.2]; exact F') N' hJ.1

theorem for_range' {r : Addr} {n : Nat} {a b : Int} {t u v : Tok} {m : Str → Option Value} {news : List (Addr × Obj)}
    (hh : A.handled = none) (F : Fr h₀ env.locals s.heap m) (N : News h₀ env.locals s.heap news) (hr : IsRange s.heap r a b 1 t u v) (hsm : Builtin.Range.small a b 1 = true) (hn : Builtin.Range.rangeSize a b 1 = ((n : Nat) : Int)) (xs : List Str) (hx : x ∈ xs)
    (J : Nat → (Str → Option Value) → List (Addr × Obj) → Prop) (h0 : J 0 m news)
    (step : ∀ i t m₁ nw I oI h tk, i < n → J i m₁ nw → (∀ p ∈ nw, p.1 ≠ I) → Fr h₀ env.locals h (fun y => if y = x then some (.int (a + (i : Int)) t) else tmp m₁ m xs y) → News h₀ env.locals h ((I, oI) :: nw) →
      wpAny (model prog w) A (execs body env) (ForQ h₀ env.locals { s with heap := h, toks := tk } I oI [] (fun m' nw' => J (i + 1) m' nw' ∧ ∀ y, y ∉ xs → m' y = m y) Q) E { s with heap := h, toks := tk })
    (done : ∀ h' tk m' nw, Fr h₀ env.locals h' (tmp m' m xs) → News h₀ env.locals h' nw → J n m' nw → Q .next { s with heap := h', toks := tk }) :
    wpAny (model prog w) A (pyIter (.ref r)) (fun it s₂ => LoopAtV prog w A h₀ env x body Q E it s₂) E s :=
  for_range hh F N hr hsm hn (fun i m₁ nw => J i m₁ nw ∧ ∀ y, y ∉ xs → m₁ y = m y) ⟨h0, fun _ _ => rfl⟩
    (fun i t m₁ nw I oI h tk hi hJ hn F₁ N₁ => step i t m₁ nw I oI h tk hi hJ.1 hn (by rw [tmp_eq hJ.2]; exact F₁) N₁) fun h' tk m' nw F' N' hJ => done h' tk m' nw (by rw [tmp_eq hJ.2]; exact F') N' hJ.1

theorem for_list' {l : Addr} {o : Obj} {vs : Array Value} {m : Str → Option Value} {news : List (Addr × Obj)}
    (hh : A.handled = none) (F : Fr h₀ env.locals s.heap m) (N : News h₀ env.locals s.heap news) (hl : (l, o) ∈ news) (hc : o.cls = .type "list") {k : Nat} (hv : o.data = .seq vs k) (xs : List Str) (hx : x ∈ xs)
    (J : Nat → (Str → Option Value) → List (Addr × Obj) → Prop) (h0 : J 0 m news)
    (step : ∀ i v m₁ nw I oI h tk, vs[i]? = some v → J i m₁ nw → (l, o) ∈ nw → (∀ p ∈ nw, p.1 ≠ I) → Fr h₀ env.locals h (fun y => if y = x then some v else tmp m₁ m xs y) → News h₀ env.locals h ((I, oI) :: nw) →
      wpAny (model prog w) A (execs body env) (ForQ h₀ env.locals { s with heap := h, toks := tk } I oI [(l, o)] (fun m' nw' => J (i + 1) m' nw' ∧ ∀ y, y ∉ xs → m' y = m y) Q) E { s with heap := h, toks := tk })
    (done : ∀ h' tk m' nw, Fr h₀ env.locals h' (tmp m' m xs) → News h₀ env.locals h' nw → J vs.size m' nw → Q .next { s with heap := h', toks := tk }) :
    wpAny (model prog w) A (pyIter (.ref l)) (fun it s₂ => LoopAtV prog w A h₀ env x body Q E it s₂) E s :=
  for_list hh F N hl hc hv (fun i m₁ nw => J i m₁ nw ∧ ∀ y, y ∉ xs → m₁ y = m y) ⟨h0, fun _ _ => rfl⟩
    (fun i v m₁ nw I oI h tk hk hJ hd' hn F₁ N₁ => step i v m₁ nw I oI h tk hk hJ.1 hd' hn (by rw [tmp_eq hJ.2]; exact F₁) N₁) fun h' tk m' nw F' N' hJ => done h' tk m' nw (by rw [tmp_eq hJ.2]; exact F') N' hJ.1
end
end
end

section
open PySem PySem.W PyProof.Rows PySem.Calls LCg LCt
set_option maxRecDepth 100000
set_option maxHeartbeats 8000000
set_option linter.unusedVariables false
section

theorem ints_of_keys {kvs : List (Int × Value)} : ∀ {vs : List Value}, vs.length = kvs.length → (∀ (j : Nat) (v : Value), vs[j]? = some v → ∃ k x, kvs[j]? = some (k, x) ∧ ∃ t, v = .int k t) → IntsAre vs (kvs.map (·.1)) := by
  induction kvs with
  | nil => intro vs hl _; cases vs with
    | nil => exact .nil
    | cons _ _ => cases hl
  | cons q r ih => intro vs hl hv; cases vs with
    | nil => cases hl
    | cons v vs =>
      obtain ⟨k, x, e, t, rfl⟩ := hv 0 v rfl
      simp only [List.getElem?_cons_zero, Option.some.injEq] at e
      subst e
      exact .cons _ _ (ih (by simpa using hl) fun j u hu => by simpa using hv (j + 1) u (by simpa using hu))
section
variable {prog : Program} {w : World} {A : Around} {E : Value → Shared → Prop} {s : Shared} {h₀ : Heap} {L d : Addr} {m : Str → Option Value} {news : List (Addr × Obj)} {o : Obj} {kvs : List (Int × Value)} {Q : Value → Shared → Prop}
theorem sort_new {D : Addr} {vs : List Value} {ns : List Int} {n : Nat} {E : Value → Shared → Prop} {Q : Value → Shared → Prop} (F : Fr h₀ L s.heap m) (N : News h₀ L s.heap ((D, W.listOf vs.toArray n) :: news)) (hlt : ∀ q ∈ news, q.1 < D) (hI : IntsAre vs ns) (h64 : vs.length < 64)
    (h : ∀ vs' ns' e h', Fr h₀ L h' m → News h₀ L h' ((D, W.listOf vs'.toArray e) :: news) → IntsAre vs' ns' → ns'.Perm ns → ns'.Pairwise (· ≤ ·) → Q .none { s with heap := h' }) :
    wpAny (model prog w) A (call (.builtin "list.sort") [.ref D]) Q E s := by
  have hD := N _ (.head _)
  have hoL : s.heap.get? D = some (seqObj "list" vs.toArray n) := hD.1
  refine wpAny_call_entry slot_list_sort ⟨_, hoL, rfl⟩ entry_list_sort (list_sort_tree hoL hI h64 fun out ns' a1 a2 a3 => ⟨_, rfl, ?_⟩) (args_list_sort _)
  obtain ⟨e, he⟩ := sortedHeap_at (vs := vs) (out := out) hoL
  have old : ∀ b o, b ≠ D → s.heap.get? b = some o → (sortedHeap s.heap D vs out).get? b = some o := fun b o hb hx => (sortedHeap_old hb (Heap.lt_size hx)).trans hx
  refine h out.toList ns' e _ ⟨F.ns.at' fun o q => old _ o (Ne.symm hD.2.1) q, fun b o q => old b o (fun z => by rw [z, hD.2.2] at q; cases q) (F.keep b o q), F.above⟩ (fun p hp => ?_) a1 a2 a3
  rcases List.mem_cons.mp hp with rfl | hp
  · exact ⟨by rw [Array.toArray_toList]; exact he, hD.2⟩
  · have := N p (.tail _ hp)
    exact ⟨old _ _ (Nat.ne_of_lt (hlt p hp)) this.1, this.2⟩
theorem sorted_dict (hh : A.handled = none) (F : Fr h₀ L s.heap m) (N : News h₀ L s.heap news) (hd : (d, o) ∈ news) (hD : o.IsDictOf (PySem.intKind prog w) kvs) (lo : (d == sysModules) = false) (h64 : kvs.length < 64)
    (h : ∀ D vs' ns' e h' tk, Fr h₀ L h' m → News h₀ L h' ((D, W.listOf vs'.toArray e) :: news) → (∀ q ∈ news, q.1 < D) → IntsAre vs' ns' → ns'.Perm (kvs.map (·.1)) → ns'.Pairwise (· ≤ ·) → Q (.ref D) { s with heap := h', toks := tk }) :
    wpAny (model prog w) A (call (.builtin "sorted") [.ref d]) Q E s := by
  obtain ⟨ep, hat⟩ := (kda_dict N hd hD).dictAt
  refine kdu_sorted (kdl_dict (knd := PySem.intKind prog w) (kvs := kvs) (ep := ep) lo) hh F N hat (by rw [sizeLine_eq]; omega) fun D h' tk vs F' N' l1 hl hv => ?_
  refine sort_new F' N' l1 (ints_of_keys hl fun j v e => ?_) (by omega) fun vs' ns' e h'' F'' N'' a1 a2 a3 => h D vs' ns' e h'' tk F'' N'' l1 a1 a2 a3
  obtain ⟨k, x, hx, hk⟩ := hv j v e
  exact ⟨k, x, hx, PySem.Value.isInt_shape hk⟩
theorem list_dict (hh : A.handled = none) (F : Fr h₀ L s.heap m) (N : News h₀ L s.heap news) (hd : (d, o) ∈ news) (hD : o.IsDictOf (PySem.intKind prog w) kvs) (lo : (d == sysModules) = false) (h64 : kvs.length < 64)
    (h : ∀ D vs e h' tk, Fr h₀ L h' m → News h₀ L h' ((D, W.listOf vs.toArray e) :: news) → (∀ q ∈ news, q.1 < D) → IntsAre vs (kvs.map (·.1)) → Q (.ref D) { s with heap := h', toks := tk }) :
    wpAny (model prog w) A (call (.type "list") [.ref d]) Q E s := by
  obtain ⟨ep, hat⟩ := (kda_dict N hd hD).dictAt
  refine kdl_N (kdl_dict (knd := PySem.intKind prog w) (kvs := kvs) (ep := ep) lo) hh F N hat (by rw [sizeLine_eq]; omega) fun D c h' tk vs F' N' l1 hl hv => ?_
  refine h D vs c h' tk F' N' l1 (ints_of_keys hl fun j v e => ?_)
  obtain ⟨k, x, hx, hk⟩ := hv j v e
  exact ⟨k, x, hx, PySem.Value.isInt_shape hk⟩
end
end
end

section
open PySem PySem.W PyProof.Rows PySem.Calls
set_option maxRecDepth 100000
set_option maxHeartbeats 8000000
set_option linter.unusedVariables false
section
theorem fresh_Sp : True := by
  w_top off
  exact trivial
local macro_rules | `(tactic| walk_at "no") => `(tactic| fail)



set_option hygiene false
set_option hygiene true
-- the tactics of the kit that this text gives a meaning of its own: ktr_rel the entries picked, ktr_unf what stands apart
set_option hygiene false
set_option hygiene true
set_option hygiene false
set_option hygiene true
/-- a Space of the ledger -/
theorem spec_take_number (w : World) (asp dsp : Addr) (T : Nat → Tok) (nm st la ak le lt rc ls lm fu un wn hn ec gn : Value) (n : Int) (tn : Tok) (hne : asp ≠ dsp) :
    Spec w 264 20 400 [.ref asp] [(asp, instObj 333 dsp), (dsp, spD w T nm (.int n tn) st la ak le lt rc ls lm fu un wn hn ec gn)] (fun _ => True)
      (fun v post => ∃ t1 t2, v = .int n t1 ∧ post = [(asp, instObj 333 dsp), (dsp, spD w T nm (.int (n + 1) t2) st la ak le lt rc ls lm fu un wn hn ec gn)]) := by
  unfold Spec
  k_fill
  intro dp9z un9z gd9z cn9z cs9z a9z ccd9z cl9z outer9z A₀9z base9z h₀9z L9z m9z s9z Q9z E9z mean9z mg9z mb9z news9z rest9z hB9z hF9z hX9z hN9z hsub9z hrs9z hAp9z hRo9z hT9z hk9z hd9z hu9z hret9z
  first
  | (k_dflt (refine' fr_call hB9z hF9z hX9z hN9z hsub9z hrs9z hAp9z hT9z rfl rfl hk9z ?k6 ?k7 ?k8 ?k9 ?kB hret9z ?_ ?c2 ?c3 ?c4 ?c5; (case k6 => k_is); (case k7 => k_is); (case k8 => ktr_room); (case k9 => exact BindsTo.of_eq rfl); (case c5 => decide); (case kB => exact locs rfl); (case c2 => exact rfl); (case c3 => exact rfl); (case c4 => exact rfl))
     k_whole
     intro g9z' L9z' h9z' tk9z' st9z' hR9z' F9z' N9z' B9z' X9z' T9z'
     have hRo9z' := hRo9z g9z' st9z' hR9z'
     (try dsimp only at hRo9z')
     clear hB9z hF9z hX9z hN9z hsub9z hrs9z hAp9z hRo9z hT9z hret9z st9z' hR9z')
  | (k_dflt (refine' fr_callC hB9z hF9z hX9z hN9z hsub9z hrs9z hAp9z hT9z rfl rfl hk9z ?k6 ?k7 ?k8 ?k9 ?kB ?kD hret9z ?_ ?c2 ?c3 ?c4; (case k6 => k_is); (case k7 => k_is); (case k8 => ktr_room); (case k9 => exact BindsTo.of_eq rfl); (case kB => exact rfl); (case kD => decide +kernel); (case c2 => exact rfl); (case c3 => exact rfl); (case c4 => exact rfl))
     k_whole
     intro g9z' L9z' h9z' tk9z' cells9z' st9z' hR9z' F9z' N9z' Y9z' B9z' X9z' T9z' l19z
     have hRo9z' := hRo9z g9z' st9z' hR9z'
     (try dsimp only at hRo9z')
     clear hB9z hF9z hX9z hN9z hsub9z hrs9z hAp9z hRo9z hT9z hret9z st9z' hR9z'
     (try k_lt l19z)
     k_cells Y9z'
     (try dsimp only [List.cons_append, List.nil_append] at N9z'))
  (try dsimp only)
  (try k_fold)
  refine gen_Q fun Q0 hQ0 => ?_
  (repeat' (first | (k_unfold; (try dsimp only)) | (k_end; wrow_close) | (with_reducible first | (k_here; (show wpAny _ _ (call (Value.ref 177) _) _ _ _); k_dflt (refine' Spec.use (spec_any_in_flight _ _ _ _ _ ?ne) ?zB ?zF ?zX ?zN ?zP ?zA ?zR ?zT ?zk ?zd ?zu ?_); top_raise; (case zP => ktr_rel); (case ne => k_ne); top_raiseB; intro v' p' h' tk' F' N' A' P'; obtain ⟨e1', e2'⟩ := P'; subst e1'; subst e2'; clear A'; top_strB) | (k_here; (show wpAny _ _ (call (Value.ref 172) _) _ _ _); k_dflt (refine' Spec.use (spec_any_eliciting _ _ _ _ _ ?ne) ?zB ?zF ?zX ?zN ?zP ?zA ?zR ?zT ?zk ?zd ?zu ?_); top_raise; (case zP => ktr_rel); (case ne => k_ne); top_raiseB; intro v' p' h' tk' F' N' A' P'; obtain ⟨e1', e2'⟩ := P'; subst e1'; subst e2'; clear A'; top_strB) | (k_here; (show wpAny _ _ (setItem (Value.ref _) (Value.int _ _) _) _ _ _); k_dflt (refine' kda_set (knd := PySem.intKind _ _) ?F ?N ?U ?d (intKind_is _ _ _ _) ?z ?_; (case F => k_asm); (case N => k_asm); (case U => k_updF); (case d => k_asm); (case z => (rw [sizeLine_eq]; omega))); intro h' o' F' N' hd'; (try dsimp only at N'))) | walk1 | dsimp only | (leave1; try dsimp only) | fail "no step"))
  all_goals (try dsimp only)
  all_goals exact hQ0 _ _ (two_end (by k_asm) (by k_asm) (by k_mem) (by k_mem) ⟨_, _, by rw [Int.add_sub_cancel], rfl⟩)

/-- a packet's objects -/
def SentPost (w : World) (asp dsp ast afr atp : Addr) (T : Nat → Tok) (nm nn la ak lt rc ls lm fu un wn hn ec gn : Value) (n now z : Int) (tn tw tz t : Tok) (c : Nat) (kvs : List (Int × Value)) (old : List (Addr × Obj)) (v : Value) (post : List (Addr × Obj)) : Prop :=
  ∃ a d k0 k1 k2 k3 k4 k5 o', v = .ref a ∧ o'.IsDictOf (intKind PySem.Challenge.rw_pb0526_01.row.prog w) (stored kvs n (.ref a)) ∧ ((∀ p ∈ old, p.1 < d) ∧ @LT.lt Nat _ d a) ∧
    post = [(a, instObj 204 d), (d, pkD w k0 k1 k2 k3 k4 k5 (.int n tn) (.int now tw) (.int z tz) (.ref afr) (.bool true) (.bool true)), (asp, instObj 333 dsp), (dsp, spD w T nm nn (.ref ast) la ak (.int now tw) lt rc ls lm fu un wn hn ec gn), (ast, o'), (afr, W.listOf #[.ref atp] c), (atp, tupO [.str (Str.ofString "ping") t])]
theorem sent_end {w : World} {asp dsp ast afr atp : Addr} {T : Nat → Tok} {nm nn la ak lt rc ls lm fu un wn hn ec gn : Value} {n now z : Int} {tn tw tz t : Tok} {c : Nat} {kvs : List (Int × Value)} {old : List (Addr × Obj)} {g : Heap} {L' a d : Addr} {s₁ : Shared} {h' : Heap} {tk' : Nat}
    {m' : Str → Option Value} {news : List (Addr × Obj)} {k0 k1 k2 k3 k4 k5 : Tok} {o' : Obj} (F : Fr g L' h' m') (N : News g L' h' news) (hd : o'.IsDictOf (intKind PySem.Challenge.rw_pb0526_01.row.prog w) (stored kvs n (.ref a)))
    (h1 : (a, instObj 204 d) ∈ news) (h2 : (d, pkD w k0 k1 k2 k3 k4 k5 (.int n tn) (.int now tw) (.int z tz) (.ref afr) (.bool true) (.bool true)) ∈ news) (h3 : (asp, instObj 333 dsp) ∈ news)
    (h4 : (dsp, spD w T nm nn (.ref ast) la ak (.int now tw) lt rc ls lm fu un wn hn ec gn) ∈ news) (h5 : (ast, o') ∈ news) (h6 : (afr, W.listOf #[.ref atp] c) ∈ news) (h7 : (atp, tupO [.str (Str.ofString "ping") t]) ∈ news) (hl : (∀ p ∈ old, p.1 < d) ∧ @LT.lt Nat _ d a) :
    LeafQ g L' s₁ (SentPost w asp dsp ast afr atp T nm nn la ak lt rc ls lm fu un wn hn ec gn n now z tn tw tz t c kvs old) (.ref a) { s₁ with heap := h', toks := tk' } :=
  LeafQ.of F N (sub_cons h1 (sub_cons h2 (sub_cons h3 (sub_cons h4 (sub_cons h5 (sub_cons h6 (sub_cons h7 sub_nil)))))))
    ⟨a, d, k0, k1, k2, k3, k4, k5, o', rfl, hd, hl, rfl⟩

theorem spec_sp_sent (w : World) (asp dsp ast afr atp : Addr) (T : Nat → Tok) (nm nn la ak le lt rc ls lm fu un wn hn ec gn : Value) (n now z : Int) (tn tw tz t : Tok) (c : Nat) (ost : Obj) (kvs : List (Int × Value))
    (hd : ost.IsDictOf (intKind PySem.Challenge.rw_pb0526_01.row.prog w) kvs) (hs : kvs.length ≤ 1000)
    (h1 : asp ≠ dsp) (h2 : asp ≠ ast) (h3 : asp ≠ afr) (h4 : asp ≠ atp) (h5 : dsp ≠ ast) (h6 : dsp ≠ afr) (h7 : dsp ≠ atp) (h8 : ast ≠ afr) (h9 : ast ≠ atp) (h10 : afr ≠ atp) :
    Spec w 271 40 900 [.ref asp, .int n tn, .int now tw, .int z tz, .ref afr]
      [(asp, instObj 333 dsp), (dsp, spD w T nm nn (.ref ast) la ak le lt rc ls lm fu un wn hn ec gn), (ast, ost), (afr, W.listOf #[.ref atp] c), (atp, tupO [.str (Str.ofString "ping") t])] (fun _ => True)
      (SentPost w asp dsp ast afr atp T nm nn la ak lt rc ls lm fu un wn hn ec gn n now z tn tw tz t c kvs [(asp, instObj 333 dsp), (dsp, spD w T nm nn (.ref ast) la ak le lt rc ls lm fu un wn hn ec gn), (ast, ost), (afr, W.listOf #[.ref atp] c), (atp, tupO [.str (Str.ofString "ping") t])]) := by
  unfold Spec
  k_fill
  intro dp9z un9z gd9z cn9z cs9z a9z ccd9z cl9z outer9z A₀9z base9z h₀9z L9z m9z s9z Q9z E9z mean9z mg9z mb9z news9z rest9z hB9z hF9z hX9z hN9z hsub9z hrs9z hAp9z hRo9z hT9z hk9z hd9z hu9z hret9z
  first
  | (k_dflt (refine' fr_call hB9z hF9z hX9z hN9z hsub9z hrs9z hAp9z hT9z rfl rfl hk9z ?k6 ?k7 ?k8 ?k9 ?kB hret9z ?_ ?c2 ?c3 ?c4 ?c5; (case k6 => k_is); (case k7 => k_is); (case k8 => ktr_room); (case k9 => exact BindsTo.of_eq rfl); (case c5 => decide); (case kB => exact locs rfl); (case c2 => exact rfl); (case c3 => exact rfl); (case c4 => exact rfl))
     k_whole
     intro g9z' L9z' h9z' tk9z' st9z' hR9z' F9z' N9z' B9z' X9z' T9z'
     have hRo9z' := hRo9z g9z' st9z' hR9z'
     (try dsimp only at hRo9z')
     clear hB9z hF9z hX9z hN9z hsub9z hrs9z hAp9z hRo9z hT9z hret9z st9z' hR9z')
  | (k_dflt (refine' fr_callC hB9z hF9z hX9z hN9z hsub9z hrs9z hAp9z hT9z rfl rfl hk9z ?k6 ?k7 ?k8 ?k9 ?kB ?kD hret9z ?_ ?c2 ?c3 ?c4; (case k6 => k_is); (case k7 => k_is); (case k8 => ktr_room); (case k9 => exact BindsTo.of_eq rfl); (case kB => exact rfl); (case kD => decide +kernel); (case c2 => exact rfl); (case c3 => exact rfl); (case c4 => exact rfl))
     k_whole
     intro g9z' L9z' h9z' tk9z' cells9z' st9z' hR9z' F9z' N9z' Y9z' B9z' X9z' T9z' l19z
     have hRo9z' := hRo9z g9z' st9z' hR9z'
     (try dsimp only at hRo9z')
     clear hB9z hF9z hX9z hN9z hsub9z hrs9z hAp9z hRo9z hT9z hret9z st9z' hR9z'
     (try k_lt l19z)
     k_cells Y9z'
     (try dsimp only [List.cons_append, List.nil_append] at N9z'))
  (try dsimp only)
  (try k_fold)
  refine gen_Q fun Q0 hQ0 => ?_
  (repeat' (first | (k_unfold; (try dsimp only)) | (k_end; wrow_close) | (with_reducible first | (k_here; (show wpAny _ _ (call (Value.ref 177) _) _ _ _); k_dflt (refine' Spec.use (spec_any_in_flight _ _ _ _ _ ?ne) ?zB ?zF ?zX ?zN ?zP ?zA ?zR ?zT ?zk ?zd ?zu ?_); top_raise; (case zP => ktr_rel); (case ne => k_ne); top_raiseB; intro v' p' h' tk' F' N' A' P'; obtain ⟨e1', e2'⟩ := P'; subst e1'; subst e2'; clear A'; top_strB) | (k_here; (show wpAny _ _ (call (Value.ref 172) _) _ _ _); k_dflt (refine' Spec.use (spec_any_eliciting _ _ _ _ _ ?ne) ?zB ?zF ?zX ?zN ?zP ?zA ?zR ?zT ?zk ?zd ?zu ?_); top_raise; (case zP => ktr_rel); (case ne => k_ne); top_raiseB; intro v' p' h' tk' F' N' A' P'; obtain ⟨e1', e2'⟩ := P'; subst e1'; subst e2'; clear A'; top_strB) | (k_here; (show wpAny _ _ (setItem (Value.ref _) (Value.int _ _) _) _ _ _); k_dflt (refine' kda_set (knd := PySem.intKind _ _) ?F ?N ?U ?d (intKind_is _ _ _ _) ?z ?_; (case F => k_asm); (case N => k_asm); (case U => k_updF); (case d => k_asm); (case z => (rw [sizeLine_eq]; omega))); intro h' o' F' N' hd'; (try dsimp only at N'))) | walk1 | dsimp only | (leave1; try dsimp only) | fail "no step"))
  all_goals (try dsimp only)
  all_goals exact hQ0 _ _ (sent_end (by k_asm) (by k_asm) (by assumption) (by k_mem) (by k_mem) (by k_mem) (by k_mem) (by k_mem) (by k_mem) (by k_mem) ⟨by assumption, by assumption⟩)
theorem sent_ret {w : World} {asp dsp ast afr atp : Addr} {T : Nat → Tok} {nm nn la ak lt rc ls lm fu un wn hn ec gn : Value} {n now z : Int} {tn tw tz t : Tok} {c : Nat} {kvs : List (Int × Value)} {old rest : List (Addr × Obj)} {h₀ : Heap} {L : Addr} {m : Str → Option Value} {Q : Value → Shared → Prop} {s : Shared}
    (k : ∀ a d k0 k1 k2 k3 k4 k5 o' h' tk', o'.IsDictOf (intKind PySem.Challenge.rw_pb0526_01.row.prog w) (stored kvs n (.ref a)) → (∀ p ∈ old, p.1 < d) → @LT.lt Nat _ d a → (∀ p ∈ rest, p.1 ≠ a) → (∀ p ∈ rest, p.1 ≠ d) → Fr h₀ L h' m →
      News h₀ L h' ((a, instObj 204 d) :: (d, pkD w k0 k1 k2 k3 k4 k5 (.int n tn) (.int now tw) (.int z tz) (.ref afr) (.bool true) (.bool true)) :: (asp, instObj 333 dsp) :: (dsp, spD w T nm nn (.ref ast) la ak (.int now tw) lt rc ls lm fu un wn hn ec gn) :: (ast, o') :: (afr, W.listOf #[.ref atp] c) :: (atp, tupO [.str (Str.ofString "ping") t]) :: rest) → Q (.ref a) { s with heap := h', toks := tk' }) :
    ∀ v post h' tk', Fr h₀ L h' m → News h₀ L h' (post ++ rest) → Apart rest post → SentPost w asp dsp ast afr atp T nm nn la ak lt rc ls lm fu un wn hn ec gn n now z tn tw tz t c kvs old v post → Q v { s with heap := h', toks := tk' } := by
  intro v post h' tk' F N A P
  obtain ⟨a, d, k0, k1, k2, k3, k4, k5, o', rfl, hd, ⟨hl, hm⟩, rfl⟩ := P
  exact k a d k0 k1 k2 k3 k4 k5 o' h' tk' hd hl hm (A (a, _) (.head _)) (A (d, _) (.tail _ (.head _))) F N
end
end

section
open PySem PySem.W PyProof.Rows PySem.Calls LCg LCt
set_option maxRecDepth 100000
set_option maxHeartbeats 8000000
set_option linter.unusedVariables false
section
theorem fresh_Oct : True := by
  w_top off
  exact trivial




set_option hygiene false
set_option hygiene true
-- the tactics of the kit that this text gives a meaning of its own: ktr_rel the entries picked, ktr_unf what stands apart

theorem spec_octets_out (w : World) (asp dsp ast : Addr) (T : Nat → Tok) (nm nn la ak le lt rc ls lm fu un wn hn ec gn : Value) (ost : Obj) (ps : List Pk)
    (hD : ost.IsDictOf (intKind PySem.Challenge.rw_pb0526_01.row.prog w) (sentOf ps)) (lo : (ast == sysModules) = false) (hs : ps.length ≤ 1000) (h1 : asp ≠ dsp) (h2 : asp ≠ ast) (h5 : dsp ≠ ast) :
    Spec w 316 40 900 [.ref asp] [(asp, instObj 333 dsp), (dsp, spD w T nm nn (.ref ast) la ak le lt rc ls lm fu un wn hn ec gn), (ast, ost)] (fun g => ∀ p ∈ ps, PkAt w g p)
      (fun v post => ∃ t, v = .int ((ps.map (·.z)).sum) t ∧ post = [(asp, instObj 333 dsp), (dsp, spD w T nm nn (.ref ast) la ak le lt rc ls lm fu un wn hn ec gn), (ast, ost)]) := by
  unfold Spec
  k_fill
  intro dp9z un9z gd9z cn9z cs9z a9z ccd9z cl9z outer9z A₀9z base9z h₀9z L9z m9z s9z Q9z E9z mean9z mg9z mb9z news9z rest9z hB9z hF9z hX9z hN9z hsub9z hrs9z hAp9z hRo9z hT9z hk9z hd9z hu9z hret9z
  first
  | (k_dflt (refine' fr_call hB9z hF9z hX9z hN9z hsub9z hrs9z hAp9z hT9z rfl rfl hk9z ?k6 ?k7 ?k8 ?k9 ?kB hret9z ?_ ?c2 ?c3 ?c4 ?c5; (case k6 => k_is); (case k7 => k_is); (case k8 => ktr_room); (case k9 => exact BindsTo.of_eq rfl); (case c5 => decide); (case kB => exact locs rfl); (case c2 => exact rfl); (case c3 => exact rfl); (case c4 => exact rfl))
     k_whole
     intro g9z' L9z' h9z' tk9z' st9z' hR9z' F9z' N9z' B9z' X9z' T9z'
     have hRo9z' := hRo9z g9z' st9z' hR9z'
     (try dsimp only at hRo9z')
     clear hB9z hF9z hX9z hN9z hsub9z hrs9z hAp9z hRo9z hT9z hret9z st9z' hR9z')
  | (k_dflt (refine' fr_callC hB9z hF9z hX9z hN9z hsub9z hrs9z hAp9z hT9z rfl rfl hk9z ?k6 ?k7 ?k8 ?k9 ?kB ?kD hret9z ?_ ?c2 ?c3 ?c4; (case k6 => k_is); (case k7 => k_is); (case k8 => ktr_room); (case k9 => exact BindsTo.of_eq rfl); (case kB => exact rfl); (case kD => decide +kernel); (case c2 => exact rfl); (case c3 => exact rfl); (case c4 => exact rfl))
     k_whole
     intro g9z' L9z' h9z' tk9z' cells9z' st9z' hR9z' F9z' N9z' Y9z' B9z' X9z' T9z' l19z
     have hRo9z' := hRo9z g9z' st9z' hR9z'
     (try dsimp only at hRo9z')
     clear hB9z hF9z hX9z hN9z hsub9z hrs9z hAp9z hRo9z hT9z hret9z st9z' hR9z'
     (try k_lt l19z)
     k_cells Y9z'
     (try dsimp only [List.cons_append, List.nil_append] at N9z'))
  (try dsimp only)
  (try k_fold)
  refine gen_Q fun Q0 hQ0 => ?_
  (repeat' (first | (k_unfold; (try dsimp only)) | (k_end; wrow_close) | (with_reducible first | (k_here; (show wpAny _ _ (eval (Expr.ListComp _ [⟨_, Expr.Call (Expr.Attribute _ (Str.ofString "values") _) _ _ _, [_], _⟩] _ _) _) _ _ _); k_dflt (refine ListComp_VT (knd := PySem.intKind PySem.Challenge.rw_pb0526_01.row.prog _) (F₀ := by k_asm) (by with_unfolding_all rfl) (by decide) (by rfl) (by decide) (by rfl) ?_)) | (k_here; (show wpAny _ _ (setItem (Value.ref _) (Value.int _ _) _) _ _ _); k_dflt (refine' kda_set (knd := PySem.intKind _ _) ?F ?N ?U ?d (intKind_is _ _ _ _) ?z ?_; (case F => k_asm); (case N => k_asm); (case U => k_updF); (case d => k_asm); (case z => (rw [sizeLine_eq]; omega))); intro h' o' F' N' hd'; (try dsimp only at N'))) | walk1 | dsimp only | (leave1; try dsimp only) | fail "no step"))
  all_goals (try dsimp only)
  rename (∀ p ∈ ps, PkAt _ _ p) => hRo
  refine ⟨_, _, _, _, _, rfl, rfl, by k_asm, by k_asm, by k_mem, by k_mem, hD, ?_, fun s₂ hs₂ => ?_⟩
  · rw [sizeLine_eq]; simp only [List.length_map]; omega
  refine gen_P fun G9 kG9 => ?_
  obtain ⟨g₂, rfl⟩ := hs₂
  refine kG9 ?_
  clear kG9
  refine compT_keep (fun i ys => IntsAre ys ((ps.take i).map (·.z))) .nil ?_ ?_
  · intro i ys v I oI C oC D m₂ h tk E' hi hys hP hC hx F N off hne
    refine gen_P fun G9 kG9 => ?_
    obtain ⟨p, hp, rfl⟩ := sent_at hP
    have hpa := hRo p (List.mem_of_getElem? hp)
    obtain ⟨hpa1, k0, k1, k2, k3, k4, k5, tn, tt, tz, fr, hpa2⟩ := hpa
    refine kG9 ?_
    clear kG9
    (repeat' (first | (k_unfold; (try dsimp only)) | (k_end; wrow_close) | (with_reducible first | (k_here; (show wpAny _ _ (eval (Expr.ListComp _ [⟨_, Expr.Call (Expr.Attribute _ (Str.ofString "values") _) _ _ _, [_], _⟩] _ _) _) _ _ _); k_dflt (refine ListComp_VT (knd := PySem.intKind PySem.Challenge.rw_pb0526_01.row.prog _) (F₀ := by k_asm) (by with_unfolding_all rfl) (by decide) (by rfl) (by decide) (by rfl) ?_)) | (k_here; (show wpAny _ _ (setItem (Value.ref _) (Value.int _ _) _) _ _ _); k_dflt (refine' kda_set (knd := PySem.intKind _ _) ?F ?N ?U ?d (intKind_is _ _ _ _) ?z ?_; (case F => k_asm); (case N => k_asm); (case U => k_updF); (case d => k_asm); (case z => (rw [sizeLine_eq]; omega))); intro h' o' F' N' hd'; (try dsimp only at N'))) | walk1 | dsimp only | (leave1; try dsimp only) | fail "no step"))
    exact compEnd_keep (by k_asm) (by k_asm) (fun p hp => hp) off (by k_mem) (by rw [take_snoc hp, List.map_append]; exact IntsAre.append hys (.cons _ _ .nil))
  · intro ys hys
    have hys' : IntsAre ys (ps.map (·.z)) := by simpa using hys
    clear hys
    (repeat' (first | (k_unfold; (try dsimp only)) | (k_end; wrow_close) | (with_reducible first | (k_here; (show wpAny _ _ (eval (Expr.ListComp _ [⟨_, Expr.Call (Expr.Attribute _ (Str.ofString "values") _) _ _ _, [_], _⟩] _ _) _) _ _ _); k_dflt (refine ListComp_VT (knd := PySem.intKind PySem.Challenge.rw_pb0526_01.row.prog _) (F₀ := by k_asm) (by with_unfolding_all rfl) (by decide) (by rfl) (by decide) (by rfl) ?_)) | (k_here; (show wpAny _ _ (setItem (Value.ref _) (Value.int _ _) _) _ _ _); k_dflt (refine' kda_set (knd := PySem.intKind _ _) ?F ?N ?U ?d (intKind_is _ _ _ _) ?z ?_; (case F => k_asm); (case N => k_asm); (case U => k_updF); (case d => k_asm); (case z => (rw [sizeLine_eq]; omega))); intro h' o' F' N' hd'; (try dsimp only at N'))) | walk1 | dsimp only | (leave1; try dsimp only) | fail "no step"))
    all_goals (try dsimp only)
    all_goals exact hQ0 _ _ (LeafQ.fin (by k_asm) (by k_asm) ⟨_, rfl, rfl⟩ (by tb_rel))
end
end

section
open PySem PySem.W PyProof.Rows PySem.Calls LCg LCt
set_option maxRecDepth 100000
set_option maxHeartbeats 8000000
set_option linter.unusedVariables false
section
theorem fresh_Rows : True := by
  w_top off
  exact trivial
local macro_rules | `(tactic| walk_at "no") => `(tactic| fail)



set_option hygiene false
set_option hygiene true
-- the tactics of the kit that this text gives a meaning of its own: ktr_rel the entries picked, ktr_unf what stands apart

def RowIn (R : List (Addr × Obj)) (e : Pk × Addr) : Prop := ∃ tt tz, (e.2, tupO [.int e.1.t tt, .int e.1.z tz, .bool true, .bool true]) ∈ R
/-- the rows' dict, the rows -/
def RowsAre (w : World) (fa : Addr) (ps : List Pk) (o : Obj) (R : List (Addr × Obj)) : Prop :=
  ∃ rl : List (Pk × Addr), rl.map (·.1) = ps ∧ (∀ e ∈ rl, RowIn R e) ∧ (∀ p ∈ R, p.1 ≠ fa) ∧ o.IsDictOf (intKind PySem.Challenge.rw_pb0526_01.row.prog w) (rl.map fun e => (e.1.n, Value.ref e.2))
def RowsJ (w : World) (mine : List (Addr × Obj)) (ps : List Pk) (fa : Addr) (i : Nat) (nw : List (Addr × Obj)) : Prop :=
  ∃ o R, RowsAre w fa (ps.take i) o R ∧ nw = (fa, o) :: (mine ++ R)
theorem rows_end {w : World} {g h' : Heap} {L I fa q : Addr} {oI o' : Obj} {m' m : Str → Option Value} {all mine R src : List (Addr × Obj)} {s₁ : Shared} {tk i : Nat} {ps : List Pk} {p : Pk} {rl : List (Pk × Addr)} {tt tz : Tok} {xs : List Str}
    (F : Fr g L h' m') (N : News g L h' all) (hd' : o'.IsDictOf (intKind PySem.Challenge.rw_pb0526_01.row.prog w) (stored (rl.map fun e => (e.1.n, Value.ref e.2)) p.n (.ref q)))
    (h1 : (q, tupO [.int p.t tt, .int p.z tz, .bool true, .bool true]) ∈ all) (hI : (I, oI) ∈ all) (h2 : (fa, o') ∈ all) (h3 : ∀ x ∈ mine, x ∈ all) (h4 : ∀ x ∈ R, x ∈ all)
    (hrl : rl.map (·.1) = ps.take i) (hrow : ∀ e ∈ rl, RowIn R e) (hR : ∀ p ∈ R, p.1 ≠ fa) (hp : ps[i]? = some p) (hn : (ps.map (·.n)).Nodup) (e1 : q ≠ fa) (e2 : q ≠ I) (e3 : fa ≠ I) (e4 : ∀ p ∈ mine, p.1 ≠ I) (e5 : ∀ p ∈ R, p.1 ≠ I)
    (hs : ∀ p ∈ src, p ∈ mine) (hm : ∀ y, y ∉ xs → m' y = m y) :
    ForEnd g L s₁ I oI src (fun m' nw => RowsJ w mine ps fa (i + 1) nw ∧ ∀ y, y ∉ xs → m' y = m y) { s₁ with heap := h', toks := tk } := by
  refine ForEnd.of (nw := (fa, o') :: (mine ++ ((q, tupO [.int p.t tt, .int p.z tz, .bool true, .bool true]) :: R))) F N ⟨⟨o', _, ⟨rl ++ [(p, q)], ?_, ?_, ?_, ?_⟩, rfl⟩, hm⟩ hI ?_ ?_ ?_
  · rw [List.map_append, hrl, take_snoc hp]; rfl
  · intro e he
    rcases List.mem_append.mp he with he | he
    · obtain ⟨a, b, hab⟩ := hrow e he
      exact ⟨a, b, .tail _ hab⟩
    · rw [List.mem_singleton.mp he]
      exact ⟨tt, tz, .head _⟩
  · exact List.forall_mem_cons.mpr ⟨e1, hR⟩
  · rw [stored_new (by
      rw [List.map_map]
      have : ((fun x : Int × Value => x.1) ∘ fun e : Pk × Addr => (e.1.n, Value.ref e.2)) = (fun p : Pk => p.n) ∘ fun e : Pk × Addr => e.1 := rfl
      rw [this, ← List.map_map, hrl]
      exact fresh_at hn hp)] at hd'
    rw [List.map_append]
    exact hd'
  · exact sub_cons h2 fun x hx => (List.mem_append.mp hx).elim (h3 x) (sub_cons h1 h4 x)
  · exact List.forall_mem_cons.mpr ⟨e3, List.forall_mem_append.mpr ⟨e4, List.forall_mem_cons.mpr ⟨e2, e5⟩⟩⟩
  · exact fun p hp => .tail _ (List.mem_append_left _ (hs p hp))
theorem spec_sent_rows (w : World) (asp dsp ast : Addr) (T : Nat → Tok) (nm nn la ak le lt rc ls lm fu un wn hn ec gn : Value) (ost : Obj) (ps : List Pk)
    (hD : ost.IsDictOf (intKind PySem.Challenge.rw_pb0526_01.row.prog w) (sentOf ps)) (lo : (ast == sysModules) = false) (hs : ps.length ≤ 1000) (h1 : asp ≠ dsp) (h2 : asp ≠ ast) (h5 : dsp ≠ ast) :
    Spec w 323 40 900 [.ref asp] [(asp, instObj 333 dsp), (dsp, spD w T nm nn (.ref ast) la ak le lt rc ls lm fu un wn hn ec gn), (ast, ost)] (fun g => ∀ p ∈ ps, PkAt w g p)
      (fun v post => ∃ fa o R, v = .ref fa ∧ RowsAre w fa ps o R ∧ (fa ≠ asp ∧ fa ≠ dsp ∧ fa ≠ ast ∧ (fa == sysModules) = false) ∧ post = (fa, o) :: (asp, instObj 333 dsp) :: (dsp, spD w T nm nn (.ref ast) la ak le lt rc ls lm fu un wn hn ec gn) :: (ast, ost) :: R) := by
  unfold Spec
  k_fill
  intro dp9z un9z gd9z cn9z cs9z a9z ccd9z cl9z outer9z A₀9z base9z h₀9z L9z m9z s9z Q9z E9z mean9z mg9z mb9z news9z rest9z hB9z hF9z hX9z hN9z hsub9z hrs9z hAp9z hRo9z hT9z hk9z hd9z hu9z hret9z
  first
  | (k_dflt (refine' fr_call hB9z hF9z hX9z hN9z hsub9z hrs9z hAp9z hT9z rfl rfl hk9z ?k6 ?k7 ?k8 ?k9 ?kB hret9z ?_ ?c2 ?c3 ?c4 ?c5; (case k6 => k_is); (case k7 => k_is); (case k8 => ktr_room); (case k9 => exact BindsTo.of_eq rfl); (case c5 => decide); (case kB => exact locs rfl); (case c2 => exact rfl); (case c3 => exact rfl); (case c4 => exact rfl))
     k_whole
     intro g9z' L9z' h9z' tk9z' st9z' hR9z' F9z' N9z' B9z' X9z' T9z'
     have hRo9z' := hRo9z g9z' st9z' hR9z'
     (try dsimp only at hRo9z')
     clear hB9z hF9z hX9z hN9z hsub9z hrs9z hAp9z hRo9z hT9z hret9z st9z' hR9z')
  | (k_dflt (refine' fr_callC hB9z hF9z hX9z hN9z hsub9z hrs9z hAp9z hT9z rfl rfl hk9z ?k6 ?k7 ?k8 ?k9 ?kB ?kD hret9z ?_ ?c2 ?c3 ?c4; (case k6 => k_is); (case k7 => k_is); (case k8 => ktr_room); (case k9 => exact BindsTo.of_eq rfl); (case kB => exact rfl); (case kD => decide +kernel); (case c2 => exact rfl); (case c3 => exact rfl); (case c4 => exact rfl))
     k_whole
     intro g9z' L9z' h9z' tk9z' cells9z' st9z' hR9z' F9z' N9z' Y9z' B9z' X9z' T9z' l19z
     have hRo9z' := hRo9z g9z' st9z' hR9z'
     (try dsimp only at hRo9z')
     clear hB9z hF9z hX9z hN9z hsub9z hrs9z hAp9z hRo9z hT9z hret9z st9z' hR9z'
     (try k_lt l19z)
     k_cells Y9z'
     (try dsimp only [List.cons_append, List.nil_append] at N9z'))
  (try dsimp only)
  (try k_fold)
  refine gen_Q fun Q0 hQ0 => ?_
  k_steps
  all_goals (try dsimp only)
  rename (∀ p ∈ ps, PkAt _ _ p) => hRo
  rename (Obj.IsDictOf (PySem.intKind _ _) _ []) => hfi
  refine for_dict' (knd := PySem.intKind PySem.Challenge.rw_pb0526_01.row.prog _) rfl (by k_asm) (by k_asm) (by k_mem) hD lo [Str.ofString "packet", Str.ofString "number"] (by decide)
    (fun i m₁ nw => RowsJ w [(asp, instObj 333 dsp), (dsp, spD w T nm nn (.ref ast) la ak le lt rc ls lm fu un wn hn ec gn), (ast, ost)] ps _ i nw) ⟨_, [], ⟨[], rfl, (fun _ h => nomatch h), (fun _ h => nomatch h), hfi⟩, rfl⟩ ?step ?done
  case step =>
    intro i v k u m₁ nw I oI h tk hk hv hJ hdm hnI F N
    refine gen_P fun G9 kG9 => ?_
    obtain ⟨o, R, ⟨rl, hrl, hrow, hR, hod⟩, rfl⟩ := hJ
    obtain ⟨tkk, rfl⟩ := PySem.Value.isInt_shape hv
    refine kG9 ?_
    clear kG9
    simp only [List.cons_append, List.nil_append] at N hnI hdm ⊢
    simp only [all_cons] at hnI
    refine gen_P fun G9 kG9 => ?_
    obtain ⟨n1, n2, n3, n4, n5⟩ := hnI
    have hval := valueAt_of_get (keysNodup_of_isDictOf hD) hk
    obtain ⟨p, hp, rfl, rfl⟩ := sent_at' hk
    obtain ⟨hpa1, k0, k1, k2, k3, k4, k5, tn, tt, tz, fr, hpa2⟩ := hRo p (List.mem_of_getElem? hp)
    refine kG9 ?_
    clear kG9
    have hl : rl.length ≤ 1000 := by
      have := congrArg List.length hrl
      rw [List.length_map, List.length_take] at this
      omega
    k_steps
    exact rows_end (by k_asm) (by k_asm) (by assumption) (by k_mem) (by k_mem) (by k_mem) (by tb_rel) (fun x hx => by repeat (first | exact hx | exact List.Mem.tail _ hx | refine List.Mem.tail _ ?_)) hrl hrow hR hp
      (by have := keysNodup_of_isDictOf hD; rwa [keys_sent] at this) (by k_ne) (by k_ne) n1 (by simp only [all_cons, all_nil]; exact ⟨n2, n3, n4, trivial⟩) n5 (by tb_rel) (by intro y hy; simp only [List.mem_cons, List.not_mem_nil, or_false, not_or] at hy; simp only [hy.1, hy.2, if_false, tmp])
  case done =>
    intro h' tk m' nw F N hJ
    refine gen_P fun G9 kG9 => ?_
    obtain ⟨o, R, hrows, rfl⟩ := hJ
    refine kG9 ?_
    clear kG9
    rw [List.length_map, List.take_length] at hrows
    simp only [List.cons_append, List.nil_append] at N
    k_steps
    all_goals (try dsimp only)
    all_goals exact hQ0 _ _ (LeafQ.fin (by k_asm) (by k_asm) ⟨_, _, _, rfl, hrows, ⟨by k_ne, by k_ne, by k_ne, by assumption⟩, rfl⟩ (fun p hp => hp))
end
end

section
open PySem PySem.W PyProof.Rows PySem.Calls LCg LCt
set_option maxRecDepth 100000
set_option maxHeartbeats 8000000
set_option linter.unusedVariables false
section
theorem fresh_Lost : True := by
  w_top off
  exact trivial




set_option hygiene false
set_option hygiene true
-- the tactics of the kit that this text gives a meaning of its own: ktr_rel the entries picked, ktr_unf what stands apart

set_option hygiene false
set_option hygiene true

def isLost (n st lg now dl : Int) : Bool := decide (lg ≥ n + 3) || decide (st + dl ≤ now)
theorem spec_is_lost (w : World) (n st lg now dl : Int) (t1 t2 t3 t4 t5 : Tok) :
    Spec w 28 20 400 [.int n t1, .int st t2, .int lg t3, .int now t4, .int dl t5] [] (fun _ => True) (fun v post => v = .bool (isLost n st lg now dl) ∧ post = []) := by
  unfold Spec
  k_fill
  intro dp9z un9z gd9z cn9z cs9z a9z ccd9z cl9z outer9z A₀9z base9z h₀9z L9z m9z s9z Q9z E9z mean9z mg9z mb9z news9z rest9z hB9z hF9z hX9z hN9z hsub9z hrs9z hAp9z hRo9z hT9z hk9z hd9z hu9z hret9z
  first
  | (k_dflt (refine' fr_call hB9z hF9z hX9z hN9z hsub9z hrs9z hAp9z hT9z rfl rfl hk9z ?k6 ?k7 ?k8 ?k9 ?kB hret9z ?_ ?c2 ?c3 ?c4 ?c5; (case k6 => k_is); (case k7 => k_is); (case k8 => ktr_room); (case k9 => exact BindsTo.of_eq rfl); (case c5 => decide); (case kB => exact locs rfl); (case c2 => exact rfl); (case c3 => exact rfl); (case c4 => exact rfl))
     k_whole
     intro g9z' L9z' h9z' tk9z' st9z' hR9z' F9z' N9z' B9z' X9z' T9z'
     have hRo9z' := hRo9z g9z' st9z' hR9z'
     (try dsimp only at hRo9z')
     clear hB9z hF9z hX9z hN9z hsub9z hrs9z hAp9z hRo9z hT9z hret9z st9z' hR9z')
  | (k_dflt (refine' fr_callC hB9z hF9z hX9z hN9z hsub9z hrs9z hAp9z hT9z rfl rfl hk9z ?k6 ?k7 ?k8 ?k9 ?kB ?kD hret9z ?_ ?c2 ?c3 ?c4; (case k6 => k_is); (case k7 => k_is); (case k8 => ktr_room); (case k9 => exact BindsTo.of_eq rfl); (case kB => exact rfl); (case kD => decide +kernel); (case c2 => exact rfl); (case c3 => exact rfl); (case c4 => exact rfl))
     k_whole
     intro g9z' L9z' h9z' tk9z' cells9z' st9z' hR9z' F9z' N9z' Y9z' B9z' X9z' T9z' l19z
     have hRo9z' := hRo9z g9z' st9z' hR9z'
     (try dsimp only at hRo9z')
     clear hB9z hF9z hX9z hN9z hsub9z hrs9z hAp9z hRo9z hT9z hret9z st9z' hR9z'
     (try k_lt l19z)
     k_cells Y9z'
     (try dsimp only [List.cons_append, List.nil_append] at N9z'))
  (try dsimp only)
  (try k_fold)
  refine gen_Q fun Q0 hQ0 => ?_
  (repeat' (first | (k_unfold; (try dsimp only)) | (k_end; wrow_close) | (with_reducible first | (k_here; (show wpAny _ _ (call (Value.builtin "list.append") [Value.ref _, _]) _ _ _); k_dflt (refine' append_K ?k1 ?k2 ?k3 ?_ ?z; (case k1 => k_asm); (case k2 => k_asm); (case k3 => k_upd); (case z => (rw [sizeLine_eq]; (try simp only [List.size_toArray]); omega)); k_whole); intro h' F' N'; (try k_sweep)) | (k_here; (show wpAny _ _ (call (Value.builtin "sorted") [Value.ref _]) _ _ _); k_dflt (refine' sorted_dict ?sdh ?sdF ?sdN ?sdd ?sdD ?sdl ?sdz ?_; (case sdh => rfl); (case sdF => k_asm); (case sdN => k_asm); (case sdd => k_mem); (case sdD => assumption); (case sdl => assumption); (case sdz => ((try simp only [List.length_map]); omega))); intro D' vs' ns' e' h' tk' F' N' l1 a1' a2' a3'; (try k_lt l1))) | walk1 | dsimp only | (leave1; try dsimp only) | fail "no step"))
  all_goals (try dsimp only)
  all_goals exact hQ0 _ _ (LeafQ.fin (by k_asm) (by k_asm) ⟨congrArg Value.bool (by unfold isLost; by_cases h1 : n + 3 ≤ lg <;> first | (simp_all; done) | (simp_all; omega)), rfl⟩ (by tb_rel))

def due (la : Value) (now : Int) (p : Pk) : Bool := match la with
  | .int l _ => decide (p.n ≤ l) && isLost p.n p.t l now 500
  | _ => false
/-- the packet of a number -/
def ofNum (ps : List Pk) (k : Int) : Option Pk := ps.find? fun p => p.n == k
def dueN (la : Value) (now : Int) (ps : List Pk) (k : Int) : Bool := match ofNum ps k with
  | some p => due la now p
  | none => false
theorem ofNum_some {ps : List Pk} {k : Int} (h : k ∈ ps.map (·.n)) : ∃ p, ofNum ps k = some p ∧ p ∈ ps ∧ p.n = k := by
  obtain ⟨q, hq, e⟩ := List.mem_map.mp h
  cases hf : ofNum ps k with
  | none => exact absurd (List.find?_eq_none.mp hf q hq) (by simp [e])
  | some p => exact ⟨p, rfl, List.mem_of_find?_eq_some hf, by have := List.find?_some hf; simpa using this⟩
/-- a row of the rows -/
def RowAt (g : Heap) (e : Pk × Addr) : Prop := ∃ tt tz, g.get? e.2 = some (tupO [.int e.1.t tt, .int e.1.z tz, .bool true, .bool true])
def LostPost (w : World) (fa : Addr) (o : Obj) (la : Value) (now : Int) (ps : List Pk) (v : Value) (post : List (Addr × Obj)) : Prop :=
  ∃ tp lo its k lv li, v = .ref tp ∧ IntsAre its.toList li ∧ li.Pairwise (· ≤ ·) ∧ li.Nodup ∧ (∀ x, x ∈ li ↔ x ∈ ps.map (·.n) ∧ dueN la now ps x = true) ∧ (@LT.lt Nat _ fa lo ∧ @LT.lt Nat _ lo tp) ∧
    post = [(tp, tupO [.ref lo, lv]), (lo, W.listOf its k), (fa, o)]
set_option hygiene false
set_option hygiene true

theorem ofNum_at {ps : List Pk} (hn : (ps.map (·.n)).Nodup) {j : Nat} {p : Pk} (hp : ps[j]? = some p) : ofNum ps p.n = some p := by
  have e := split_at hp
  have hf := fresh_at hn hp
  unfold ofNum
  rw [e, List.find?_append]
  rw [List.find?_eq_none.mpr (fun q hq => by
    intro h
    exact hf (List.mem_map.mpr ⟨q, hq, by simpa using h⟩))]
  simp
theorem row_of {w : World} {o : Obj} {rl : List (Pk × Addr)} {n : Int} (hD : o.IsDictOf (intKind PySem.Challenge.rw_pb0526_01.row.prog w) (rl.map fun e => (e.1.n, Value.ref e.2))) (h : n ∈ (rl.map (·.1)).map (·.n)) :
    ∃ e ∈ rl, e.1.n = n ∧ valueAt (rl.map fun e => (e.1.n, Value.ref e.2)) n = some (.ref e.2) ∧ ofNum (rl.map (·.1)) n = some e.1 := by
  have hnd := keysNodup_of_isDictOf hD
  have hnd' : ((rl.map (·.1)).map (·.n)).Nodup := by rw [List.map_map] at hnd ⊢; exact hnd
  rw [List.map_map] at h
  obtain ⟨e, he, rfl⟩ := List.mem_map.mp h
  obtain ⟨j, hj⟩ := List.getElem?_of_mem he
  refine ⟨e, he, rfl, valueAt_of_get hnd (i := j) (by rw [List.getElem?_map, hj]; rfl), ofNum_at hnd' (j := j) (by rw [List.getElem?_map, hj]; rfl)⟩
def LostJ (la : Value) (now : Int) (ps : List Pk) (ns : List Int) (q1 q2 q3 : Addr × Obj) (lo : Addr) (i : Nat) (m₁ : Str → Option Value) (nw : List (Addr × Obj)) : Prop :=
  ∃ its k li lv, IntsAre its.toList li ∧ li = (ns.take i).filter (dueN la now ps) ∧ m₁ (Str.ofString "later") = some lv ∧ OptInt lv ∧ nw = [q1, q2, (lo, W.listOf its k), q3]

section
variable {w : World} {g h' : Heap} {L I lo : Addr} {oI : Obj} {m' m : Str → Option Value} {all src : List (Addr × Obj)} {q1 q2 q3 : Addr × Obj} {s₁ : Shared} {tk i k : Nat} {la lv : Value} {now n : Int} {ps : List Pk} {ns li : List Int} {its : Array Value} {t : Tok} {xs : List Str}
theorem lost_keep (F : Fr g L h' m') (N : News g L h' all) (hI : (I, oI) ∈ all) (h1 : q1 ∈ all) (h2 : q2 ∈ all) (h3 : (lo, W.listOf its k) ∈ all) (h4 : q3 ∈ all) (hl : m' (Str.ofString "later") = some lv) (hlv : OptInt lv)
    (hints : IntsAre its.toList li) (hli : li = (ns.take i).filter (dueN la now ps)) (hn : ns[i]? = some n) (hb : dueN la now ps n = false)
    (e1 : q1.1 ≠ I) (e2 : q2.1 ≠ I) (e3 : lo ≠ I) (e4 : q3.1 ≠ I) (hs : ∀ p ∈ src, p ∈ [q1, q2, (lo, W.listOf its k), q3]) (hm : ∀ y, y ∉ xs → m' y = m y) :
    ForEnd g L s₁ I oI src (fun m' nw => LostJ la now ps ns q1 q2 q3 lo (i + 1) m' nw ∧ ∀ y, y ∉ xs → m' y = m y) { s₁ with heap := h', toks := tk } :=
  ForEnd.of (nw := [q1, q2, (lo, W.listOf its k), q3]) F N ⟨⟨its, k, li, lv, hints, by rw [take_snoc hn, List.filter_append, ← hli, List.filter_cons, hb]; simp, hl, hlv, rfl⟩, hm⟩ hI (sub_cons h1 (sub_cons h2 (sub_cons h3 (sub_cons h4 sub_nil))))
    (by simp only [List.forall_mem_cons]; exact ⟨e1, e2, e3, e4, fun _ h => nomatch h⟩) hs
theorem lost_push (F : Fr g L h' m') (N : News g L h' all) (hI : (I, oI) ∈ all) (h1 : q1 ∈ all) (h2 : q2 ∈ all) (h3 : (lo, W.listOf (its.push (.int n t)) k) ∈ all) (h4 : q3 ∈ all) (hl : m' (Str.ofString "later") = some lv) (hlv : OptInt lv)
    (hints : IntsAre its.toList li) (hli : li = (ns.take i).filter (dueN la now ps)) (hn : ns[i]? = some n) (hb : dueN la now ps n = true)
    (e1 : q1.1 ≠ I) (e2 : q2.1 ≠ I) (e3 : lo ≠ I) (e4 : q3.1 ≠ I) (hs : ∀ p ∈ src, p ∈ [q1, q2, (lo, W.listOf (its.push (.int n t)) k), q3]) (hm : ∀ y, y ∉ xs → m' y = m y) :
    ForEnd g L s₁ I oI src (fun m' nw => LostJ la now ps ns q1 q2 q3 lo (i + 1) m' nw ∧ ∀ y, y ∉ xs → m' y = m y) { s₁ with heap := h', toks := tk } :=
  ForEnd.of (nw := [q1, q2, (lo, W.listOf (its.push (.int n t)) k), q3]) F N ⟨⟨_, k, li ++ [n], lv, by rw [Array.toList_push]; exact IntsAre.append hints (.cons _ _ .nil), by rw [take_snoc hn, List.filter_append, ← hli, List.filter_cons, hb]; simp, hl, hlv, rfl⟩, hm⟩ hI (sub_cons h1 (sub_cons h2 (sub_cons h3 (sub_cons h4 sub_nil))))
    (by simp only [List.forall_mem_cons]; exact ⟨e1, e2, e3, e4, fun _ h => nomatch h⟩) hs
end
theorem spec_detect_lost (w : World) (fa : Addr) (o : Obj) (la : Value) (now : Int) (tn td : Tok) (rl : List (Pk × Addr)) (hla : OptInt la) (hs : rl.length < 64)
    (hD : o.IsDictOf (intKind PySem.Challenge.rw_pb0526_01.row.prog w) (rl.map fun e => (e.1.n, Value.ref e.2))) (lo : (fa == sysModules) = false) :
    Spec w 35 60 900 [.ref fa, la, .int now tn, .int 500 td] [(fa, o)] (fun g => ∀ e ∈ rl, RowAt g e) (LostPost w fa o la now (rl.map (·.1))) := by
  unfold Spec
  k_fill
  intro dp9z un9z gd9z cn9z cs9z a9z ccd9z cl9z outer9z A₀9z base9z h₀9z L9z m9z s9z Q9z E9z mean9z mg9z mb9z news9z rest9z hB9z hF9z hX9z hN9z hsub9z hrs9z hAp9z hRo9z hT9z hk9z hd9z hu9z hret9z
  first
  | (k_dflt (refine' fr_call hB9z hF9z hX9z hN9z hsub9z hrs9z hAp9z hT9z rfl rfl hk9z ?k6 ?k7 ?k8 ?k9 ?kB hret9z ?_ ?c2 ?c3 ?c4 ?c5; (case k6 => k_is); (case k7 => k_is); (case k8 => ktr_room); (case k9 => exact BindsTo.of_eq rfl); (case c5 => decide); (case kB => exact locs rfl); (case c2 => exact rfl); (case c3 => exact rfl); (case c4 => exact rfl))
     k_whole
     intro g9z' L9z' h9z' tk9z' st9z' hR9z' F9z' N9z' B9z' X9z' T9z'
     have hRo9z' := hRo9z g9z' st9z' hR9z'
     (try dsimp only at hRo9z')
     clear hB9z hF9z hX9z hN9z hsub9z hrs9z hAp9z hRo9z hT9z hret9z st9z' hR9z')
  | (k_dflt (refine' fr_callC hB9z hF9z hX9z hN9z hsub9z hrs9z hAp9z hT9z rfl rfl hk9z ?k6 ?k7 ?k8 ?k9 ?kB ?kD hret9z ?_ ?c2 ?c3 ?c4; (case k6 => k_is); (case k7 => k_is); (case k8 => ktr_room); (case k9 => exact BindsTo.of_eq rfl); (case kB => exact rfl); (case kD => decide +kernel); (case c2 => exact rfl); (case c3 => exact rfl); (case c4 => exact rfl))
     k_whole
     intro g9z' L9z' h9z' tk9z' cells9z' st9z' hR9z' F9z' N9z' Y9z' B9z' X9z' T9z' l19z
     have hRo9z' := hRo9z g9z' st9z' hR9z'
     (try dsimp only at hRo9z')
     clear hB9z hF9z hX9z hN9z hsub9z hrs9z hAp9z hRo9z hT9z hret9z st9z' hR9z'
     (try k_lt l19z)
     k_cells Y9z'
     (try dsimp only [List.cons_append, List.nil_append] at N9z'))
  (try dsimp only)
  (try k_fold)
  refine gen_Q fun Q0 hQ0 => ?_
  (repeat' (first | (k_unfold; (try dsimp only)) | (k_end; wrow_close) | (with_reducible first | (k_here; (show wpAny _ _ (call (Value.ref 28) _) _ _ _); k_dflt (refine' Spec.use (spec_is_lost _ _ _ _ _ _ _ _ _ _ _) ?zB ?zF ?zX ?zN ?zP ?zA ?zR ?zT ?zk ?zd ?zu ?_); top_raise; (case zP => ktr_rel); top_raiseB; intro v' p' h' tk' F' N' A' P'; obtain ⟨e1', e2'⟩ := P'; subst e1'; subst e2'; clear A'; top_strB) | (k_here; (show wpAny _ _ (subscriptTail _ _ (Value.ref _) (Value.int _ _)) _ _ _); k_dflt (refine' item_tupleT ?t ?a ?b ?c ?d ?_; (case t => exact Fr.tup (by assumption) (by assumption)); (case a => decide); (case b => decide); (case c => rfl); (case d => rfl); k_whole)) | (k_here; (show wpAny _ _ (call (Value.builtin "list.append") [Value.ref _, _]) _ _ _); k_dflt (refine' append_K ?k1 ?k2 ?k3 ?_ ?z; (case k1 => k_asm); (case k2 => k_asm); (case k3 => k_upd); (case z => (rw [sizeLine_eq]; (try simp only [List.size_toArray]); omega)); k_whole); intro h' F' N'; (try k_sweep)) | (k_here; (show wpAny _ _ (call (Value.builtin "sorted") [Value.ref _]) _ _ _); k_dflt (refine' sorted_dict ?sdh ?sdF ?sdN ?sdd ?sdD ?sdl ?sdz ?_; (case sdh => rfl); (case sdF => k_asm); (case sdN => k_asm); (case sdd => k_mem); (case sdD => assumption); (case sdl => assumption); (case sdz => ((try simp only [List.length_map]); omega))); intro D' vs' ns' e' h' tk' F' N' l1 a1' a2' a3'; (try k_lt l1))) | walk1 | dsimp only | (leave1; try dsimp only) | fail "no step"))
  all_goals (try dsimp only)
  rename (∀ e ∈ rl, RowAt _ e) => hRo
  unfold Stop
  refine for_list' rfl (by k_asm) (by k_asm) (by k_mem) rfl rfl [Str.ofString "later", Str.ofString "number", Str.ofString "sent_at"] (by decide)
    (fun i m₁ nw => LostJ la now (rl.map (·.1)) ns' _ _ (fa, o) _ i m₁ nw) ⟨#[], 0, [], .none, .nil, rfl, rfl, .none, rfl⟩ ?step ?done
  case step =>
    intro i v m₁ nw I oI h tk hk hJ hdm hnI F N
    refine gen_P fun G9 kG9 => ?_
    obtain ⟨its, kk, li, lv, hints, hli, hm, hlv, rfl⟩ := hJ
    obtain ⟨n, t, rfl, hn⟩ := a1'.at i v (by simpa using hk)
    have hmem : n ∈ ((rl.map (·.1)).map (·.n)) := by
      have := a2'.mem_iff.mp (List.mem_of_getElem? hn)
      rw [List.map_map] at this ⊢
      exact this
    obtain ⟨e, he, rfl, hval, hof⟩ := row_of hD hmem
    obtain ⟨tt, tz, hrow⟩ := hRo e he
    have hT : IsTup _ e.2 #[.int e.1.t tt, .int e.1.z tz, .bool true, .bool true] := ⟨_, hrow, rfl, _, rfl⟩
    have hdue : dueN la now (rl.map (·.1)) e.1.n = due la now e.1 := by unfold dueN; rw [hof]
    simp only [tmp, hm] at F
    simp only [all_cons] at hnI
    obtain ⟨n1, n2, n3, n4, n5⟩ := hnI
    refine kG9 ?_
    clear kG9
    have hsz : its.size ≤ 64 := by
      have h1 := hints.length
      have h4 := a2'.length_eq
      have h5 := List.length_filter_le (dueN la now (rl.map (·.1))) (ns'.take i)
      have h6 := List.length_take_le' i ns'
      simp only [List.length_map] at h4
      rw [Array.length_toList, hli] at h1
      omega
    cases hla <;> cases hlv
    all_goals (repeat' (first | (k_unfold; (try dsimp only)) | (k_end; wrow_close) | (with_reducible first | (k_here; (show wpAny _ _ (call (Value.ref 28) _) _ _ _); k_dflt (refine' Spec.use (spec_is_lost _ _ _ _ _ _ _ _ _ _ _) ?zB ?zF ?zX ?zN ?zP ?zA ?zR ?zT ?zk ?zd ?zu ?_); top_raise; (case zP => ktr_rel); top_raiseB; intro v' p' h' tk' F' N' A' P'; obtain ⟨e1', e2'⟩ := P'; subst e1'; subst e2'; clear A'; top_strB) | (k_here; (show wpAny _ _ (subscriptTail _ _ (Value.ref _) (Value.int _ _)) _ _ _); k_dflt (refine' item_tupleT ?t ?a ?b ?c ?d ?_; (case t => exact Fr.tup (by assumption) (by assumption)); (case a => decide); (case b => decide); (case c => rfl); (case d => rfl); k_whole)) | (k_here; (show wpAny _ _ (call (Value.builtin "list.append") [Value.ref _, _]) _ _ _); k_dflt (refine' append_K ?k1 ?k2 ?k3 ?_ ?z; (case k1 => k_asm); (case k2 => k_asm); (case k3 => k_upd); (case z => (rw [sizeLine_eq]; (try simp only [List.size_toArray]); omega)); k_whole); intro h' F' N'; (try k_sweep)) | (k_here; (show wpAny _ _ (call (Value.builtin "sorted") [Value.ref _]) _ _ _); k_dflt (refine' sorted_dict ?sdh ?sdF ?sdN ?sdd ?sdD ?sdl ?sdz ?_; (case sdh => rfl); (case sdF => k_asm); (case sdN => k_asm); (case sdd => k_mem); (case sdD => assumption); (case sdl => assumption); (case sdz => ((try simp only [List.length_map]); omega))); intro D' vs' ns' e' h' tk' F' N' l1 a1' a2' a3'; (try k_lt l1))) | walk1 | dsimp only | (leave1; try dsimp only) | fail "no step"))
    all_goals (try dsimp only)
    all_goals first
      | (refine' lost_keep ?qF ?qN ?qI ?q1 ?q2 ?q3 ?q4 ?ql ?qv hints hli hn ?qb n1 n2 n3 n4 ?qs ?qm
         (case qF => k_asm)
         (case qN => k_asm)
         (case q3 => k_mem)
         (case qI => k_mem)
         (case q1 => k_mem)
         (case q2 => k_mem)
         (case q4 => k_mem)
         (case qb => (rw [hdue]; first | (simp_all [due]; done) | (simp only [due, Bool.and_eq_false_iff, decide_eq_false_iff_not]; left; omega)))
         (case ql => rfl)
         (case qv => first | exact .none | exact .int _ _)
         (case qs => tb_rel)
         (case qm => (intro y hy; simp only [List.mem_cons, List.not_mem_nil, or_false, not_or] at hy; simp only [hy.1, hy.2.1, hy.2.2, if_false, tmp])))
      | (refine' lost_push ?qF ?qN ?qI ?q1 ?q2 ?q3 ?q4 ?ql ?qv hints hli hn ?qb n1 n2 n3 n4 ?qs ?qm
         (case qF => k_asm)
         (case qN => k_asm)
         (case q3 => k_mem)
         (case qI => k_mem)
         (case q1 => k_mem)
         (case q2 => k_mem)
         (case q4 => k_mem)
         (case qb => (rw [hdue]; first | (simp_all [due]; done) | (simp only [due, Bool.and_eq_false_iff, decide_eq_false_iff_not]; left; omega)))
         (case ql => rfl)
         (case qv => first | exact .none | exact .int _ _)
         (case qs => tb_rel)
         (case qm => (intro y hy; simp only [List.mem_cons, List.not_mem_nil, or_false, not_or] at hy; simp only [hy.1, hy.2.1, hy.2.2, if_false, tmp])))
  case done =>
    intro h' tk m' nw F N hJ
    refine gen_P fun G9 kG9 => ?_
    obtain ⟨its, kk, li, lv, hints, hli, hm, hlv, rfl⟩ := hJ
    refine kG9 ?_
    clear kG9
    have hfull : li = ns'.filter (dueN la now (rl.map (·.1))) := by
      rw [hli, List.take_of_length_le]
      rw [List.size_toArray, IntsAre.length a1']
      exact Nat.le_refl _
    simp only [tmp, hm] at F
    have hlp : li.Pairwise (· ≤ ·) := by rw [hfull]; exact a3'.filter _
    have hnd : li.Nodup := by
      rw [hfull]
      exact List.Nodup.sublist List.filter_sublist (a2'.nodup_iff.mpr (keysNodup_of_isDictOf hD))
    have hiff : ∀ x, x ∈ li ↔ x ∈ (rl.map (·.1)).map (·.n) ∧ dueN la now (rl.map (·.1)) x = true := fun x => by
      rw [hfull, List.mem_filter, a2'.mem_iff]
      simp only [List.map_map]
      rfl
    (repeat' (first | (k_unfold; (try dsimp only)) | (k_end; wrow_close) | (with_reducible first | (k_here; (show wpAny _ _ (call (Value.ref 28) _) _ _ _); k_dflt (refine' Spec.use (spec_is_lost _ _ _ _ _ _ _ _ _ _ _) ?zB ?zF ?zX ?zN ?zP ?zA ?zR ?zT ?zk ?zd ?zu ?_); top_raise; (case zP => ktr_rel); top_raiseB; intro v' p' h' tk' F' N' A' P'; obtain ⟨e1', e2'⟩ := P'; subst e1'; subst e2'; clear A'; top_strB) | (k_here; (show wpAny _ _ (subscriptTail _ _ (Value.ref _) (Value.int _ _)) _ _ _); k_dflt (refine' item_tupleT ?t ?a ?b ?c ?d ?_; (case t => exact Fr.tup (by assumption) (by assumption)); (case a => decide); (case b => decide); (case c => rfl); (case d => rfl); k_whole)) | (k_here; (show wpAny _ _ (call (Value.builtin "list.append") [Value.ref _, _]) _ _ _); k_dflt (refine' append_K ?k1 ?k2 ?k3 ?_ ?z; (case k1 => k_asm); (case k2 => k_asm); (case k3 => k_upd); (case z => (rw [sizeLine_eq]; (try simp only [List.size_toArray]); omega)); k_whole); intro h' F' N'; (try k_sweep)) | (k_here; (show wpAny _ _ (call (Value.builtin "sorted") [Value.ref _]) _ _ _); k_dflt (refine' sorted_dict ?sdh ?sdF ?sdN ?sdd ?sdD ?sdl ?sdz ?_; (case sdh => rfl); (case sdF => k_asm); (case sdN => k_asm); (case sdd => k_mem); (case sdD => assumption); (case sdl => assumption); (case sdz => ((try simp only [List.length_map]); omega))); intro D' vs' ns' e' h' tk' F' N' l1 a1' a2' a3'; (try k_lt l1))) | walk1 | dsimp only | (leave1; try dsimp only) | fail "no step"))
    all_goals (try dsimp only)
    all_goals (try (rename (∀ p : Addr × Obj, p ∈ (_ :: _) → p.1 < _) => hq1; replace hq1 := allLt_of hq1; simp only [AllLt, and_true] at hq1))
    all_goals (try (rename (∀ p : Addr × Obj, p ∈ (_ :: _) → p.1 < _) => hq2; replace hq2 := allLt_of hq2; simp only [AllLt, and_true] at hq2))
    all_goals (try (rename (∀ p : Addr × Obj, p ∈ (_ :: _) → p.1 < _) => hq3; replace hq3 := allLt_of hq3; simp only [AllLt, and_true] at hq3))
    all_goals (try (rename (∀ p : Addr × Obj, p ∈ (_ :: _) → p.1 < _) => hq4; replace hq4 := allLt_of hq4; simp only [AllLt, and_true] at hq4))
    all_goals (try (rename (∀ p : Addr × Obj, p ∈ (_ :: _) → p.1 < _) => hq5; replace hq5 := allLt_of hq5; simp only [AllLt, and_true] at hq5))
    all_goals (try (rename (∀ p : Addr × Obj, p ∈ (_ :: _) → p.1 < _) => hq6; replace hq6 := allLt_of hq6; simp only [AllLt, and_true] at hq6))
    all_goals exact hQ0 _ _ (LeafQ.fin (by k_asm) (by k_asm) ⟨_, _, _, _, _, _, rfl, hints, hlp, hnd, hiff, ⟨by omega, by omega⟩, rfl⟩ (by tb_rel))

end
end

section
open PySem PySem.W PyProof.Rows PySem.Calls LCg LCt
set_option maxRecDepth 100000
set_option maxHeartbeats 8000000
set_option linter.unusedVariables false
section
theorem fresh_Sp2 : True := by
  w_top off
  exact trivial
local macro_rules | `(tactic| walk_at "no") => `(tactic| fail)



set_option hygiene false
set_option hygiene true
-- the tactics of the kit that this text gives a meaning of its own: ktr_rel the entries picked, ktr_unf what stands apart

theorem spec_note_largest (w : World) (asp dsp : Addr) (T : Nat → Tok) (nm nn st la ak le lt rc ls lm fu un wn hn ec gn : Value) (n : Int) (tn : Tok) (hla : OptInt la) (hne : asp ≠ dsp) :
    Spec w 304 20 400 [.ref asp, .int n tn] [(asp, instObj 333 dsp), (dsp, spD w T nm nn st la ak le lt rc ls lm fu un wn hn ec gn)] (fun _ => True)
      (fun v post => ∃ l' t', v = .none ∧ n ≤ l' ∧ (l' = n ∨ ∃ t, la = .int l' t) ∧ post = [(asp, instObj 333 dsp), (dsp, spD w T nm nn st (.int l' t') ak le lt rc ls lm fu un wn hn ec gn)]) := by
  cases hla
  all_goals (
    unfold Spec
    k_fill
    intro dp9z un9z gd9z cn9z cs9z a9z ccd9z cl9z outer9z A₀9z base9z h₀9z L9z m9z s9z Q9z E9z mean9z mg9z mb9z news9z rest9z hB9z hF9z hX9z hN9z hsub9z hrs9z hAp9z hRo9z hT9z hk9z hd9z hu9z hret9z
    first
    | (k_dflt (refine' fr_call hB9z hF9z hX9z hN9z hsub9z hrs9z hAp9z hT9z rfl rfl hk9z ?k6 ?k7 ?k8 ?k9 ?kB hret9z ?_ ?c2 ?c3 ?c4 ?c5; (case k6 => k_is); (case k7 => k_is); (case k8 => ktr_room); (case k9 => exact BindsTo.of_eq rfl); (case c5 => decide); (case kB => exact locs rfl); (case c2 => exact rfl); (case c3 => exact rfl); (case c4 => exact rfl))
       k_whole
       intro g9z' L9z' h9z' tk9z' st9z' hR9z' F9z' N9z' B9z' X9z' T9z'
       have hRo9z' := hRo9z g9z' st9z' hR9z'
       (try dsimp only at hRo9z')
       clear hB9z hF9z hX9z hN9z hsub9z hrs9z hAp9z hRo9z hT9z hret9z st9z' hR9z')
    | (k_dflt (refine' fr_callC hB9z hF9z hX9z hN9z hsub9z hrs9z hAp9z hT9z rfl rfl hk9z ?k6 ?k7 ?k8 ?k9 ?kB ?kD hret9z ?_ ?c2 ?c3 ?c4; (case k6 => k_is); (case k7 => k_is); (case k8 => ktr_room); (case k9 => exact BindsTo.of_eq rfl); (case kB => exact rfl); (case kD => decide +kernel); (case c2 => exact rfl); (case c3 => exact rfl); (case c4 => exact rfl))
       k_whole
       intro g9z' L9z' h9z' tk9z' cells9z' st9z' hR9z' F9z' N9z' Y9z' B9z' X9z' T9z' l19z
       have hRo9z' := hRo9z g9z' st9z' hR9z'
       (try dsimp only at hRo9z')
       clear hB9z hF9z hX9z hN9z hsub9z hrs9z hAp9z hRo9z hT9z hret9z st9z' hR9z'
       (try k_lt l19z)
       k_cells Y9z'
       (try dsimp only [List.cons_append, List.nil_append] at N9z'))
    (try dsimp only)
    (try k_fold)
    refine gen_Q fun Q0 hQ0 => ?_
    k_steps
    all_goals (try dsimp only)
    all_goals first
      | exact hQ0 _ _ (two_end (by k_asm) (by k_asm) (by k_mem) (by k_mem) ⟨_, _, rfl, Int.le_refl _, .inl rfl, rfl⟩)
      | exact hQ0 _ _ (two_end (by k_asm) (by k_asm) (by k_mem) (by k_mem) ⟨_, _, rfl, by omega, .inr ⟨_, rfl⟩, rfl⟩))
set_option hygiene false
set_option hygiene true

theorem spec_forget (w : World) (asp dsp ast : Addr) (T : Nat → Tok) (nm nn la ak le lt rc ls lm fu un wn hn ec gn : Value) (ost : Obj) (ps : List Pk)
    (hD : ost.IsDictOf (intKind PySem.Challenge.rw_pb0526_01.row.prog w) (sentOf ps)) (lo : (ast == sysModules) = false) (hs : ps.length ≤ 1000) (h1 : asp ≠ dsp) (h2 : asp ≠ ast) (h5 : dsp ≠ ast) :
    Spec w 330 60 1400 [.ref asp] [(asp, instObj 333 dsp), (dsp, spD w T nm nn (.ref ast) la ak le lt rc ls lm fu un wn hn ec gn), (ast, ost)] (fun g => ∀ p ∈ ps, PkAt w g p)
      (fun v post => ∃ t, v = .int ((ps.map (·.z)).sum) t ∧ post = []) := by
  unfold Spec
  k_fill
  intro dp9z un9z gd9z cn9z cs9z a9z ccd9z cl9z outer9z A₀9z base9z h₀9z L9z m9z s9z Q9z E9z mean9z mg9z mb9z news9z rest9z hB9z hF9z hX9z hN9z hsub9z hrs9z hAp9z hRo9z hT9z hk9z hd9z hu9z hret9z
  first
  | (k_dflt (refine' fr_call hB9z hF9z hX9z hN9z hsub9z hrs9z hAp9z hT9z rfl rfl hk9z ?k6 ?k7 ?k8 ?k9 ?kB hret9z ?_ ?c2 ?c3 ?c4 ?c5; (case k6 => k_is); (case k7 => k_is); (case k8 => ktr_room); (case k9 => exact BindsTo.of_eq rfl); (case c5 => decide); (case kB => exact locs rfl); (case c2 => exact rfl); (case c3 => exact rfl); (case c4 => exact rfl))
     k_whole
     intro g9z' L9z' h9z' tk9z' st9z' hR9z' F9z' N9z' B9z' X9z' T9z'
     have hRo9z' := hRo9z g9z' st9z' hR9z'
     (try dsimp only at hRo9z')
     clear hB9z hF9z hX9z hN9z hsub9z hrs9z hAp9z hRo9z hT9z hret9z st9z' hR9z')
  | (k_dflt (refine' fr_callC hB9z hF9z hX9z hN9z hsub9z hrs9z hAp9z hT9z rfl rfl hk9z ?k6 ?k7 ?k8 ?k9 ?kB ?kD hret9z ?_ ?c2 ?c3 ?c4; (case k6 => k_is); (case k7 => k_is); (case k8 => ktr_room); (case k9 => exact BindsTo.of_eq rfl); (case kB => exact rfl); (case kD => decide +kernel); (case c2 => exact rfl); (case c3 => exact rfl); (case c4 => exact rfl))
     k_whole
     intro g9z' L9z' h9z' tk9z' cells9z' st9z' hR9z' F9z' N9z' Y9z' B9z' X9z' T9z' l19z
     have hRo9z' := hRo9z g9z' st9z' hR9z'
     (try dsimp only at hRo9z')
     clear hB9z hF9z hX9z hN9z hsub9z hrs9z hAp9z hRo9z hT9z hret9z st9z' hR9z'
     (try k_lt l19z)
     k_cells Y9z'
     (try dsimp only [List.cons_append, List.nil_append] at N9z'))
  (try dsimp only)
  (try k_fold)
  refine gen_Q fun Q0 hQ0 => ?_
  (repeat' (first | (k_unfold; (try dsimp only)) | (k_end; wrow_close) | (with_reducible first | (k_here; (show wpAny _ _ (call (Value.ref 316) _) _ _ _); k_dflt (refine' Spec.use (spec_octets_out _ _ _ _ _ _ _ _ _ _ _ _ _ _ _ _ _ _ _ _ _ _ ?D ?lo ?hs ?h1 ?h2 ?h5) ?zB ?zF ?zX ?zN ?zP ?zA ?zR ?zT ?zk ?zd ?zu ?_); top_raise; (case zP => ktr_rel); (case D | lo => assumption); (case hs => omega); (case h1 | h2 | h5 => k_ne); (case zA => ktr_unf); (case zR => (intro g1 st1 _; (rename (∀ p ∈ _, PkAt _ _ p) => hRo9); exact fun p hp => PkAt.mono st1 (hRo9 p hp))); top_raise0; intro v' p' h' tk' F' N' A' P'; obtain ⟨_, e1', e2'⟩ := P'; subst e1'; subst e2'; clear A'; top_strB)) | walk1 | dsimp only | (leave1; try dsimp only) | fail "no step"))
  all_goals (try dsimp only)
  all_goals exact hQ0 _ _ (LeafQ.fin (by k_asm) (by k_asm) ⟨_, rfl, rfl⟩ (by tb_rel))

end
end

section
open PySem PySem.W PyProof.Rows PySem.Calls LCg LCt
set_option maxRecDepth 100000
set_option maxHeartbeats 8000000
set_option linter.unusedVariables false
section
theorem fresh_Nt : True := by
  w_top off
  exact trivial




set_option hygiene false
set_option hygiene true
-- the tactics of the kit that this text gives a meaning of its own: ktr_rel the entries picked, ktr_unf what stands apart
theorem spec_newest_time (w : World) (fa lo : Addr) (o : Obj) (its : Array Value) (kk : Nat) (li : List Int) (rl : List (Pk × Addr)) (hs : rl.length < 64)
    (hD : o.IsDictOf (intKind PySem.Challenge.rw_pb0526_01.row.prog w) (rl.map fun e => (e.1.n, Value.ref e.2))) (lo' : (fa == sysModules) = false) (hints : IntsAre its.toList li) (hli : ∀ x ∈ li, x ∈ (rl.map (·.1)).map (·.n)) (hne : fa ≠ lo) :
    Spec w 42 60 900 [.ref fa, .ref lo] [(fa, o), (lo, W.listOf its kk)] (fun g => ∀ e ∈ rl, RowAt g e) (fun v post => OptInt v ∧ post = [(fa, o), (lo, W.listOf its kk)]) := by
  unfold Spec
  k_fill
  intro dp9z un9z gd9z cn9z cs9z a9z ccd9z cl9z outer9z A₀9z base9z h₀9z L9z m9z s9z Q9z E9z mean9z mg9z mb9z news9z rest9z hB9z hF9z hX9z hN9z hsub9z hrs9z hAp9z hRo9z hT9z hk9z hd9z hu9z hret9z
  first
  | (k_dflt (refine' fr_call hB9z hF9z hX9z hN9z hsub9z hrs9z hAp9z hT9z rfl rfl hk9z ?k6 ?k7 ?k8 ?k9 ?kB hret9z ?_ ?c2 ?c3 ?c4 ?c5; (case k6 => k_is); (case k7 => k_is); (case k8 => ktr_room); (case k9 => exact BindsTo.of_eq rfl); (case c5 => decide); (case kB => exact locs rfl); (case c2 => exact rfl); (case c3 => exact rfl); (case c4 => exact rfl))
     k_whole
     intro g9z' L9z' h9z' tk9z' st9z' hR9z' F9z' N9z' B9z' X9z' T9z'
     have hRo9z' := hRo9z g9z' st9z' hR9z'
     (try dsimp only at hRo9z')
     clear hB9z hF9z hX9z hN9z hsub9z hrs9z hAp9z hRo9z hT9z hret9z st9z' hR9z')
  | (k_dflt (refine' fr_callC hB9z hF9z hX9z hN9z hsub9z hrs9z hAp9z hT9z rfl rfl hk9z ?k6 ?k7 ?k8 ?k9 ?kB ?kD hret9z ?_ ?c2 ?c3 ?c4; (case k6 => k_is); (case k7 => k_is); (case k8 => ktr_room); (case k9 => exact BindsTo.of_eq rfl); (case kB => exact rfl); (case kD => decide +kernel); (case c2 => exact rfl); (case c3 => exact rfl); (case c4 => exact rfl))
     k_whole
     intro g9z' L9z' h9z' tk9z' cells9z' st9z' hR9z' F9z' N9z' Y9z' B9z' X9z' T9z' l19z
     have hRo9z' := hRo9z g9z' st9z' hR9z'
     (try dsimp only at hRo9z')
     clear hB9z hF9z hX9z hN9z hsub9z hrs9z hAp9z hRo9z hT9z hret9z st9z' hR9z'
     (try k_lt l19z)
     k_cells Y9z'
     (try dsimp only [List.cons_append, List.nil_append] at N9z'))
  (try dsimp only)
  (try k_fold)
  refine gen_Q fun Q0 hQ0 => ?_
  (repeat' (first | (k_unfold; (try dsimp only)) | (k_end; wrow_close) | (with_reducible first | (k_here; (show wpAny _ _ (subscriptTail _ _ (Value.ref _) (Value.int _ _)) _ _ _); k_dflt (refine' item_tupleT ?t ?a ?b ?c ?d ?_; (case t => exact Fr.tup (by assumption) (by assumption)); (case a => decide); (case b => decide); (case c => rfl); (case d => rfl); k_whole))) | walk1 | dsimp only | (leave1; try dsimp only) | fail "no step"))
  all_goals (try dsimp only)
  rename (∀ e ∈ rl, RowAt _ e) => hRo
  unfold Stop
  refine for_list' rfl (by k_asm) (by k_asm) (by k_mem) rfl rfl [Str.ofString "found", Str.ofString "number"] (by decide)
    (fun i m₁ nw => ∃ fv, OptInt fv ∧ m₁ (Str.ofString "found") = some fv ∧ nw = [(fa, o), (lo, W.listOf its kk)]) ⟨.none, .none, rfl, rfl⟩ ?step ?done
  case step =>
    intro i v m₁ nw I oI h tk hk hJ hdm hnI F N
    refine gen_P fun G9 kG9 => ?_
    obtain ⟨fv, hfv, hm, rfl⟩ := hJ
    obtain ⟨n, t, rfl, hn⟩ := hints.at i v (by simpa using hk)
    have hmem : n ∈ ((rl.map (·.1)).map (·.n)) := hli _ (List.mem_of_getElem? hn)
    obtain ⟨e, he, rfl, hval, hof⟩ := row_of hD hmem
    obtain ⟨tt, tz, hrow⟩ := hRo e he
    have hT : IsTup _ e.2 #[.int e.1.t tt, .int e.1.z tz, .bool true, .bool true] := ⟨_, hrow, rfl, _, rfl⟩
    simp only [tmp, hm] at F
    simp only [all_cons] at hnI
    obtain ⟨n1, n2, n3⟩ := hnI
    refine kG9 ?_
    clear kG9
    cases hfv
    all_goals (repeat' (first | (k_unfold; (try dsimp only)) | (k_end; wrow_close) | (with_reducible first | (k_here; (show wpAny _ _ (subscriptTail _ _ (Value.ref _) (Value.int _ _)) _ _ _); k_dflt (refine' item_tupleT ?t ?a ?b ?c ?d ?_; (case t => exact Fr.tup (by assumption) (by assumption)); (case a => decide); (case b => decide); (case c => rfl); (case d => rfl); k_whole))) | walk1 | dsimp only | (leave1; try dsimp only) | fail "no step"))
    all_goals (try dsimp only)
    all_goals (
      refine' ForEnd.of (nw := [(fa, o), (lo, W.listOf its kk)]) ?qF ?qN ⟨⟨_, ?qv, ?ql, rfl⟩, ?qm⟩ ?qI ?qs ?qd ?qz
      (case qF => k_asm)
      (case qN => k_asm)
      (case qI => k_mem)
      (case qs => tb_rel)
      (case qd => (simp only [List.forall_mem_cons]; exact ⟨n1, n2, fun _ h => nomatch h⟩))
      (case qz => tb_rel)
      (case ql => rfl)
      (case qv => first | exact .none | exact .int _ _)
      (case qm => (intro y hy; simp only [List.mem_cons, List.not_mem_nil, or_false, not_or] at hy; simp only [hy.1, hy.2, if_false, tmp])))
  case done =>
    intro h' tk m' nw F N hJ
    refine gen_P fun G9 kG9 => ?_
    obtain ⟨fv, hfv, hm, rfl⟩ := hJ
    refine kG9 ?_
    clear kG9
    simp only [tmp, hm] at F
    (repeat' (first | (k_unfold; (try dsimp only)) | (k_end; wrow_close) | (with_reducible first | (k_here; (show wpAny _ _ (subscriptTail _ _ (Value.ref _) (Value.int _ _)) _ _ _); k_dflt (refine' item_tupleT ?t ?a ?b ?c ?d ?_; (case t => exact Fr.tup (by assumption) (by assumption)); (case a => decide); (case b => decide); (case c => rfl); (case d => rfl); k_whole))) | walk1 | dsimp only | (leave1; try dsimp only) | fail "no step"))
    all_goals (try dsimp only)
    all_goals exact hQ0 _ _ (LeafQ.fin (by k_asm) (by k_asm) ⟨hfv, rfl⟩ (by tb_rel))

end
end

section
open PySem PySem.W PyProof.Rows PySem.Calls LCg LCt
set_option maxRecDepth 100000
set_option maxHeartbeats 8000000
set_option linter.unusedVariables false
section
theorem fresh_Fl : True := by
  w_top off
  exact trivial



set_option hygiene false
set_option hygiene true
-- the tactics of the kit that this text gives a meaning of its own: ktr_rel the entries picked, ktr_unf what stands apart
local macro_rules | `(tactic| walk_at "CompSrcT") => `(tactic| (k_here; refine Stop.out ?_))
theorem spec_flight_size (w : World) (fa lo : Addr) (o : Obj) (its : Array Value) (kk : Nat) (li : List Int) (rl : List (Pk × Addr)) (hs : rl.length < 64) (hsi : its.size ≤ 64)
    (hD : o.IsDictOf (intKind PySem.Challenge.rw_pb0526_01.row.prog w) (rl.map fun e => (e.1.n, Value.ref e.2))) (lo' : (fa == sysModules) = false) (hints : IntsAre its.toList li) (hli : ∀ x ∈ li, x ∈ (rl.map (·.1)).map (·.n)) (hne : fa ≠ lo) :
    Spec w 47 60 900 [.ref fa, .ref lo] [(fa, o), (lo, W.listOf its kk)] (fun g => ∀ e ∈ rl, RowAt g e) (fun v post => (∃ t, v = .int ((li.map fun x => ((ofNum (rl.map (·.1)) x).map (·.z)).getD 0).sum) t) ∧ post = [(fa, o), (lo, W.listOf its kk)]) := by
  unfold Spec
  k_fill
  intro dp9z un9z gd9z cn9z cs9z a9z ccd9z cl9z outer9z A₀9z base9z h₀9z L9z m9z s9z Q9z E9z mean9z mg9z mb9z news9z rest9z hB9z hF9z hX9z hN9z hsub9z hrs9z hAp9z hRo9z hT9z hk9z hd9z hu9z hret9z
  first
  | (k_dflt (refine' fr_call hB9z hF9z hX9z hN9z hsub9z hrs9z hAp9z hT9z rfl rfl hk9z ?k6 ?k7 ?k8 ?k9 ?kB hret9z ?_ ?c2 ?c3 ?c4 ?c5; (case k6 => k_is); (case k7 => k_is); (case k8 => ktr_room); (case k9 => exact BindsTo.of_eq rfl); (case c5 => decide); (case kB => exact locs rfl); (case c2 => exact rfl); (case c3 => exact rfl); (case c4 => exact rfl))
     k_whole
     intro g9z' L9z' h9z' tk9z' st9z' hR9z' F9z' N9z' B9z' X9z' T9z'
     have hRo9z' := hRo9z g9z' st9z' hR9z'
     (try dsimp only at hRo9z')
     clear hB9z hF9z hX9z hN9z hsub9z hrs9z hAp9z hRo9z hT9z hret9z st9z' hR9z')
  | (k_dflt (refine' fr_callC hB9z hF9z hX9z hN9z hsub9z hrs9z hAp9z hT9z rfl rfl hk9z ?k6 ?k7 ?k8 ?k9 ?kB ?kD hret9z ?_ ?c2 ?c3 ?c4; (case k6 => k_is); (case k7 => k_is); (case k8 => ktr_room); (case k9 => exact BindsTo.of_eq rfl); (case kB => exact rfl); (case kD => decide +kernel); (case c2 => exact rfl); (case c3 => exact rfl); (case c4 => exact rfl))
     k_whole
     intro g9z' L9z' h9z' tk9z' cells9z' st9z' hR9z' F9z' N9z' Y9z' B9z' X9z' T9z' l19z
     have hRo9z' := hRo9z g9z' st9z' hR9z'
     (try dsimp only at hRo9z')
     clear hB9z hF9z hX9z hN9z hsub9z hrs9z hAp9z hRo9z hT9z hret9z st9z' hR9z'
     (try k_lt l19z)
     k_cells Y9z'
     (try dsimp only [List.cons_append, List.nil_append] at N9z'))
  (try dsimp only)
  (try k_fold)
  refine gen_Q fun Q0 hQ0 => ?_
  (repeat' (first | (k_unfold; (try dsimp only)) | (k_end; wrow_close) | (with_reducible first | (k_here; (show wpAny _ _ (eval (Expr.ListComp _ _ _ _) _) _ _ _); k_dflt (refine LCt.ListComp_T (F₀ := by k_asm) (by with_unfolding_all rfl) (by decide) (by rfl) (by decide) (by rfl) ?_)) | (k_here; (show wpAny _ _ (subscriptTail _ _ (Value.ref _) (Value.int _ _)) _ _ _); k_dflt (refine' item_tupleT ?t ?a ?b ?c ?d ?_; (case t => exact Fr.tup (by assumption) (by assumption)); (case a => decide); (case b => decide); (case c => rfl); (case d => rfl); k_whole))) | walk1 | dsimp only | (leave1; try dsimp only) | fail "no step"))
  all_goals (try dsimp only)
  rename (∀ e ∈ rl, RowAt _ e) => hRo
  unfold Stop
  refine LCt.CompSrcT.ledger rfl (by k_asm) (by k_asm) (k := kk) (by k_mem) (by rw [sizeLine_eq]; omega) fun g₂ => ?_
  refine compT_keep (fun i ys => IntsAre ys ((li.take i).map fun x => ((ofNum (rl.map (·.1)) x).map (·.z)).getD 0)) .nil ?_ ?_
  · intro i ys v I oI C oC D m₂ h tk E' hi hys hP hC hx F N off hne'
    refine gen_P fun G9 kG9 => ?_
    obtain ⟨n, t, rfl, hn⟩ := hints.at i v (by simpa using hP)
    have hmem : n ∈ ((rl.map (·.1)).map (·.n)) := hli _ (List.mem_of_getElem? hn)
    obtain ⟨e, he, rfl, hval, hof⟩ := row_of hD hmem
    obtain ⟨tt, tz, hrow⟩ := hRo e he
    refine kG9 ?_
    clear kG9
    have hT : IsTup _ e.2 #[.int e.1.t tt, .int e.1.z tz, .bool true, .bool true] := ⟨_, hrow, rfl, _, rfl⟩
    have hz : ((ofNum (rl.map (·.1)) e.1.n).map (·.z)).getD 0 = e.1.z := by rw [hof]; rfl
    (repeat' (first | (k_unfold; (try dsimp only)) | (k_end; wrow_close) | (with_reducible first | (k_here; (show wpAny _ _ (eval (Expr.ListComp _ _ _ _) _) _ _ _); k_dflt (refine LCt.ListComp_T (F₀ := by k_asm) (by with_unfolding_all rfl) (by decide) (by rfl) (by decide) (by rfl) ?_)) | (k_here; (show wpAny _ _ (subscriptTail _ _ (Value.ref _) (Value.int _ _)) _ _ _); k_dflt (refine' item_tupleT ?t ?a ?b ?c ?d ?_; (case t => exact Fr.tup (by assumption) (by assumption)); (case a => decide); (case b => decide); (case c => rfl); (case d => rfl); k_whole))) | walk1 | dsimp only | (leave1; try dsimp only) | fail "no step"))
    all_goals (try dsimp only)
    all_goals exact compEnd_keep (by k_asm) (by k_asm) (fun p hp => hp) off (.inr ⟨_, by k_mem, rfl, _, rfl⟩) (by rw [take_snoc hn, List.map_append, List.map_cons, List.map_nil, hz]; exact IntsAre.append hys (.cons _ _ .nil))
  · intro ys hys
    have hys' : IntsAre ys (li.map fun x => ((ofNum (rl.map (·.1)) x).map (·.z)).getD 0) := by
      have hl : its.size = li.length := by rw [← Array.length_toList]; exact hints.length
      rw [List.take_of_length_le (by omega)] at hys
      exact hys
    clear hys
    (repeat' (first | (k_unfold; (try dsimp only)) | (k_end; wrow_close) | (with_reducible first | (k_here; (show wpAny _ _ (eval (Expr.ListComp _ _ _ _) _) _ _ _); k_dflt (refine LCt.ListComp_T (F₀ := by k_asm) (by with_unfolding_all rfl) (by decide) (by rfl) (by decide) (by rfl) ?_)) | (k_here; (show wpAny _ _ (subscriptTail _ _ (Value.ref _) (Value.int _ _)) _ _ _); k_dflt (refine' item_tupleT ?t ?a ?b ?c ?d ?_; (case t => exact Fr.tup (by assumption) (by assumption)); (case a => decide); (case b => decide); (case c => rfl); (case d => rfl); k_whole))) | walk1 | dsimp only | (leave1; try dsimp only) | fail "no step"))
    all_goals (try dsimp only)
    all_goals exact hQ0 _ _ (LeafQ.fin (by k_asm) (by k_asm) ⟨⟨_, rfl⟩, rfl⟩ (by tb_rel))

end
end

section
open PySem PySem.W PyProof.Rows PySem.Calls LCg LCt
set_option maxRecDepth 100000
set_option maxHeartbeats 8000000
set_option linter.unusedVariables false
section
theorem fresh_Tk : True := by
  w_top off
  exact trivial



set_option hygiene false
set_option hygiene true
-- the tactics of the kit that this text gives a meaning of its own: ktr_rel the entries picked, ktr_unf what stands apart

/-- the packets whose numbers are not told -/
def keepN (ps : List Pk) (l : List Int) : List Pk := ps.filter fun p => decide (p.n ∉ l)
theorem keepN_nil (ps : List Pk) : keepN ps [] = ps := by unfold keepN; exact List.filter_eq_self.mpr fun p _ => by simp
theorem keepN_snoc (ps : List Pk) (l : List Int) (n : Int) : keepN ps (l ++ [n]) = (keepN ps l).filter fun p => decide (p.n ≠ n) := by
  unfold keepN
  rw [List.filter_filter]
  refine List.filter_congr fun p _ => ?_
  by_cases h : p.n ∈ l <;> by_cases h2 : p.n = n <;> simp [h, h2]
theorem without_sent (qs : List Pk) (n : Int) : without (sentOf qs) n = sentOf (qs.filter fun p => decide (p.n ≠ n)) := by
  unfold without sentOf
  rw [List.filter_map]
  rfl
theorem value_sent {ps : List Pk} (hn : (ps.map (·.n)).Nodup) {p : Pk} (hp : p ∈ ps) : valueAt (sentOf ps) p.n = some (.ref p.a) := by
  obtain ⟨j, hj⟩ := List.getElem?_of_mem hp
  exact valueAt_of_get (by rw [keys_sent]; exact hn) (i := j) (by rw [List.getElem?_map, hj]; rfl)
theorem keepN_nodup {ps : List Pk} (hn : (ps.map (·.n)).Nodup) (l : List Int) : ((keepN ps l).map (·.n)).Nodup := hn.sublist (List.filter_sublist.map _)
theorem keepN_mem {ps : List Pk} {l : List Int} {p : Pk} : p ∈ keepN ps l ↔ p ∈ ps ∧ p.n ∉ l := by unfold keepN; rw [List.mem_filter, decide_eq_true_iff]
theorem ne_off1 {I C D x : Addr} {o : Obj} {l : List (Addr × Obj)} (h : LCg.Off3 I C D l) (m : (x, o) ∈ l) : x ≠ I := (LCg.Off3.mem h _ m).1
theorem ne_off2 {I C D x : Addr} {o : Obj} {l : List (Addr × Obj)} (h : LCg.Off3 I C D l) (m : (x, o) ∈ l) : x ≠ C := (LCg.Off3.mem h _ m).2.1
theorem ne_off3 {I C D x : Addr} {o : Obj} {l : List (Addr × Obj)} (h : LCg.Off3 I C D l) (m : (x, o) ∈ l) : x ≠ D := (LCg.Off3.mem h _ m).2.2
/-- the packets of some numbers -/
def pksOf (ps : List Pk) (l : List Int) : List Pk := l.filterMap (ofNum ps)
section
variable {prog : Program} {w : World} {A : Around} {s : Shared} {h₀ : Heap} {L : Addr} {m : Str → Option Value} {news : List (Addr × Obj)} {E : Value → Shared → Prop} {Q : Value → Shared → Prop}
theorem sorted_at {l : Addr} {its : Array Value} {k : Nat} {ns : List Int} (F : Fr h₀ L s.heap m) (N : News h₀ L s.heap news) (hm : (l, W.listOf its k) ∈ news) (hi : IntsAre its.toList ns) (h64 : ns.length < 64)
    (h : ∀ D vs' ns' c h', Fr h₀ L h' m → News h₀ L h' ((D, W.listOf vs' c) :: news) → (∀ q ∈ news, q.1 < D) → IntsAre vs'.toList ns' → ns'.Perm ns → ns'.Pairwise (· ≤ ·) → Q (.ref D) { s with heap := h' }) :
    wpAny (model prog w) A (call (.builtin "sorted") [.ref l]) Q E s :=
  kso_sorted F N ⟨_, (N _ hm).1, rfl, _, rfl⟩ hi h64 fun D vs' ns' c h' F' N' l1 a1 _ a3 a4 _ => h D vs'.toArray ns' c h' F' N' l1 a1 a3 a4
end
set_option hygiene false
local macro_rules | `(tactic| walk_at "call builtin:sorted") => `(tactic| (k_here; (with_reducible show wpAny _ _ (call (Value.builtin "sorted") [Value.ref _]) _ _ _); k_dflt (refine' sorted_at ?soF ?soN ?sod ?soi ?soz ?_; (case soF => k_asm); (case soN => k_asm); (case sod => k_mem); (case soi => first | assumption | exact .cons _ _ .nil); (case soz => first | assumption | omega | decide)); intro D' vs' ns' e' h' F' N' l1 a1' a2' a3'; (try k_lt l1)))
set_option hygiene true
local macro_rules | `(tactic| walk_at "CompSrcT") => `(tactic| (k_here; refine Stop.out ?_))
local macro_rules | `(tactic| k_ne) => `(tactic| first | (refine' ne_off1 ?neh ?nem; (case neh => with_reducible assumption); (case nem => k_dflt k_mem)) | (refine' Ne.symm (ne_off1 ?neh ?nem); (case neh => with_reducible assumption); (case nem => k_dflt k_mem)) | (refine' ne_off2 ?neh ?nem; (case neh => with_reducible assumption); (case nem => k_dflt k_mem)) | (refine' Ne.symm (ne_off2 ?neh ?nem); (case neh => with_reducible assumption); (case nem => k_dflt k_mem)) | (refine' ne_off3 ?neh ?nem; (case neh => with_reducible assumption); (case nem => k_dflt k_mem)) | (refine' Ne.symm (ne_off3 ?neh ?nem); (case neh => with_reducible assumption); (case nem => k_dflt k_mem)))
def TakePost (w : World) (asp dsp ast lo : Addr) (oD oL : Obj) (ps : List Pk) (li : List Int) (v : Value) (post : List (Addr × Obj)) : Prop :=
  ∃ lf its k o' ns, v = .ref lf ∧ its.toList = (pksOf ps ns).map (fun p => Value.ref p.a) ∧ ns.Perm li ∧ o'.IsDictOf (intKind PySem.Challenge.rw_pb0526_01.row.prog w) (sentOf (keepN ps ns)) ∧
    post = [(lf, W.listOf its k), (asp, instObj 333 dsp), (dsp, oD), (ast, o'), (lo, oL)]
def TakeJ (w : World) (ps : List Pk) (ns : List Int) (q0 q1 q2 q3 : Addr × Obj) (ast : Addr) (q5 : Addr × Obj) (i : Nat) (ys : List Value) (nw : List (Addr × Obj)) : Prop :=
  ∃ o', o'.IsDictOf (intKind PySem.Challenge.rw_pb0526_01.row.prog w) (sentOf (keepN ps (ns.take i))) ∧ ys = (pksOf ps (ns.take i)).map (fun p => Value.ref p.a) ∧ nw = [q0, q1, q2, q3, (ast, o'), q5]
theorem spec_take (w : World) (asp dsp ast lo : Addr) (T : Nat → Tok) (nm nn la ak le lt rc ls lm fu un wn hn ec gn : Value) (ost : Obj) (ps : List Pk) (its : Array Value) (kk : Nat) (li : List Int)
    (hD : ost.IsDictOf (intKind PySem.Challenge.rw_pb0526_01.row.prog w) (sentOf ps)) (lo' : (ast == sysModules) = false) (hs : ps.length ≤ 1000) (hnd : li.Nodup) (hints : IntsAre its.toList li) (hli : ∀ x ∈ li, x ∈ ps.map (·.n)) (h64 : li.length < 64)
    (h1 : asp ≠ dsp) (h2 : asp ≠ ast) (h3 : asp ≠ lo) (h4 : dsp ≠ ast) (h5 : dsp ≠ lo) (h6 : ast ≠ lo) :
    Spec w 276 40 900 [.ref asp, .ref lo] [(asp, instObj 333 dsp), (dsp, spD w T nm nn (.ref ast) la ak le lt rc ls lm fu un wn hn ec gn), (ast, ost), (lo, W.listOf its kk)] (fun g => ∀ p ∈ ps, PkAt w g p)
      (TakePost w asp dsp ast lo (spD w T nm nn (.ref ast) la ak le lt rc ls lm fu un wn hn ec gn) (W.listOf its kk) ps li) := by
  unfold Spec
  k_fill
  intro dp9z un9z gd9z cn9z cs9z a9z ccd9z cl9z outer9z A₀9z base9z h₀9z L9z m9z s9z Q9z E9z mean9z mg9z mb9z news9z rest9z hB9z hF9z hX9z hN9z hsub9z hrs9z hAp9z hRo9z hT9z hk9z hd9z hu9z hret9z
  first
  | (k_dflt (refine' fr_call hB9z hF9z hX9z hN9z hsub9z hrs9z hAp9z hT9z rfl rfl hk9z ?k6 ?k7 ?k8 ?k9 ?kB hret9z ?_ ?c2 ?c3 ?c4 ?c5; (case k6 => k_is); (case k7 => k_is); (case k8 => ktr_room); (case k9 => exact BindsTo.of_eq rfl); (case c5 => decide); (case kB => exact locs rfl); (case c2 => exact rfl); (case c3 => exact rfl); (case c4 => exact rfl))
     k_whole
     intro g9z' L9z' h9z' tk9z' st9z' hR9z' F9z' N9z' B9z' X9z' T9z'
     have hRo9z' := hRo9z g9z' st9z' hR9z'
     (try dsimp only at hRo9z')
     clear hB9z hF9z hX9z hN9z hsub9z hrs9z hAp9z hRo9z hT9z hret9z st9z' hR9z')
  | (k_dflt (refine' fr_callC hB9z hF9z hX9z hN9z hsub9z hrs9z hAp9z hT9z rfl rfl hk9z ?k6 ?k7 ?k8 ?k9 ?kB ?kD hret9z ?_ ?c2 ?c3 ?c4; (case k6 => k_is); (case k7 => k_is); (case k8 => ktr_room); (case k9 => exact BindsTo.of_eq rfl); (case kB => exact rfl); (case kD => decide +kernel); (case c2 => exact rfl); (case c3 => exact rfl); (case c4 => exact rfl))
     k_whole
     intro g9z' L9z' h9z' tk9z' cells9z' st9z' hR9z' F9z' N9z' Y9z' B9z' X9z' T9z' l19z
     have hRo9z' := hRo9z g9z' st9z' hR9z'
     (try dsimp only at hRo9z')
     clear hB9z hF9z hX9z hN9z hsub9z hrs9z hAp9z hRo9z hT9z hret9z st9z' hR9z'
     (try k_lt l19z)
     k_cells Y9z'
     (try dsimp only [List.cons_append, List.nil_append] at N9z'))
  (try dsimp only)
  (try k_fold)
  refine gen_Q fun Q0 hQ0 => ?_
  (repeat' (first | (k_unfold; (try dsimp only)) | (k_end; wrow_close) | (with_reducible first | (k_here; (show wpAny _ _ (compareOp CmpOp.In (Value.int _ _) (Value.ref _)) _ _ _); k_dflt (refine' kda_in (knd := PySem.intKind _ _) ?sN ?sp ?sd ?so (intKind_is _ _ _ _) true ?sv ?_; (case sN => k_asm); (case sp => k_mem); (case sd => assumption); (case so => assumption); (case sv => (simp only [*]; rfl)))) | (k_here; (show wpAny _ _ (call (Value.builtin "dict.pop") [Value.ref _, Value.int _ _]) _ _ _); k_dflt (refine' kob_pop (knd := PySem.intKind _ _) (more := []) ?F ?N ?U ?d (intKind_is _ _ _ _) (.inl rfl) (by rfl) (PySem.F.args_dict_pop_2 _ _) ?l ?z ?_; (case F => k_asm); (case N => k_asm); (case U => k_updF); (case d => assumption); (case l => assumption); (case z => (rw [sizeLine_eq]; assumption))); intro h' o' F' N' hd'; (try dsimp only at N')) | (k_here; (show wpAny _ _ (eval (Expr.ListComp _ _ _ _) _) _ _ _); k_dflt (refine LCt.ListComp_T (F₀ := by k_asm) (by with_unfolding_all rfl) (by decide) (by rfl) (by decide) (by rfl) ?_))) | walk1 | dsimp only | (leave1; try dsimp only) | fail "no step"))
  all_goals (try dsimp only)
  rename (∀ p ∈ ps, PkAt _ _ p) => hRo
  have hps : (ps.map (·.n)).Nodup := by have := keysNodup_of_isDictOf hD; rw [keys_sent] at this; exact this
  have hns : ns'.Nodup := a2'.nodup_iff.mpr hnd
  have hsz : vs'.size = ns'.length := by rw [← Array.length_toList]; exact a1'.length
  have hsl : ns'.length < 64 := by rw [a2'.length_eq]; exact h64
  unfold Stop
  refine LCt.CompSrcT.ledger rfl (by k_asm) (by k_asm) (k := e') (by k_mem) (by rw [sizeLine_eq]; omega) fun g₂ => ?_
  refine compT_inv (TakeJ w ps ns' _ _ _ _ ast _) ⟨ost, by rw [List.take_zero, keepN_nil]; exact hD, rfl, rfl⟩ ?step ?done
  case step =>
    intro i ys nw v I oI C oC D m₂ h tk E' hi hJ hP hC hx F N off hne'
    refine gen_P fun G9 kG9 => ?_
    obtain ⟨o₂, hd₂, hys, rfl⟩ := hJ
    obtain ⟨n, t, rfl, hn⟩ := a1'.at i v (by simpa using hP)
    have hnp : n ∈ ps.map (·.n) := hli _ (a2'.mem_iff.mp (List.mem_of_getElem? hn))
    obtain ⟨p, hof, hp, rfl⟩ := ofNum_some hnp
    have hfr : p.n ∉ ns'.take i := by
      intro q
      have e := split_at hn
      rw [e, List.nodup_append] at hns
      exact hns.2.2 _ q _ (.head _) rfl
    have hv := value_sent (keepN_nodup hps (ns'.take i)) (keepN_mem.mpr ⟨hp, hfr⟩)
    have hz : (sentOf (keepN ps (ns'.take i))).length ≤ 16777216 := by
      have h6 : (keepN ps (ns'.take i)).length ≤ ps.length := List.length_filter_le _ _
      simp only [List.length_map]
      omega
    refine kG9 ?_
    clear kG9
    (repeat' (first | (k_unfold; (try dsimp only)) | (k_end; wrow_close) | (with_reducible first | (k_here; (show wpAny _ _ (compareOp CmpOp.In (Value.int _ _) (Value.ref _)) _ _ _); k_dflt (refine' kda_in (knd := PySem.intKind _ _) ?sN ?sp ?sd ?so (intKind_is _ _ _ _) true ?sv ?_; (case sN => k_asm); (case sp => k_mem); (case sd => assumption); (case so => assumption); (case sv => (simp only [*]; rfl)))) | (k_here; (show wpAny _ _ (call (Value.builtin "dict.pop") [Value.ref _, Value.int _ _]) _ _ _); k_dflt (refine' kob_pop (knd := PySem.intKind _ _) (more := []) ?F ?N ?U ?d (intKind_is _ _ _ _) (.inl rfl) (by rfl) (PySem.F.args_dict_pop_2 _ _) ?l ?z ?_; (case F => k_asm); (case N => k_asm); (case U => k_updF); (case d => assumption); (case l => assumption); (case z => (rw [sizeLine_eq]; assumption))); intro h' o' F' N' hd'; (try dsimp only at N')) | (k_here; (show wpAny _ _ (eval (Expr.ListComp _ _ _ _) _) _ _ _); k_dflt (refine LCt.ListComp_T (F₀ := by k_asm) (by with_unfolding_all rfl) (by decide) (by rfl) (by decide) (by rfl) ?_))) | walk1 | dsimp only | (leave1; try dsimp only) | fail "no step"))
    all_goals (try dsimp only)
    all_goals exact ⟨_, by rw [take_snoc hn, keepN_snoc, ← without_sent]; assumption, by rw [hys, take_snoc hn]; simp [pksOf, List.filterMap_append, hof], rfl⟩
  case done =>
    intro ys nw hJ
    refine gen_P fun G9 kG9 => ?_
    obtain ⟨o₂, hd₂, hys, rfl⟩ := hJ
    refine kG9 ?_
    clear kG9
    rw [List.take_of_length_le (by omega)] at hd₂ hys
    (repeat' (first | (k_unfold; (try dsimp only)) | (k_end; wrow_close) | (with_reducible first | (k_here; (show wpAny _ _ (compareOp CmpOp.In (Value.int _ _) (Value.ref _)) _ _ _); k_dflt (refine' kda_in (knd := PySem.intKind _ _) ?sN ?sp ?sd ?so (intKind_is _ _ _ _) true ?sv ?_; (case sN => k_asm); (case sp => k_mem); (case sd => assumption); (case so => assumption); (case sv => (simp only [*]; rfl)))) | (k_here; (show wpAny _ _ (call (Value.builtin "dict.pop") [Value.ref _, Value.int _ _]) _ _ _); k_dflt (refine' kob_pop (knd := PySem.intKind _ _) (more := []) ?F ?N ?U ?d (intKind_is _ _ _ _) (.inl rfl) (by rfl) (PySem.F.args_dict_pop_2 _ _) ?l ?z ?_; (case F => k_asm); (case N => k_asm); (case U => k_updF); (case d => assumption); (case l => assumption); (case z => (rw [sizeLine_eq]; assumption))); intro h' o' F' N' hd'; (try dsimp only at N')) | (k_here; (show wpAny _ _ (eval (Expr.ListComp _ _ _ _) _) _ _ _); k_dflt (refine LCt.ListComp_T (F₀ := by k_asm) (by with_unfolding_all rfl) (by decide) (by rfl) (by decide) (by rfl) ?_))) | walk1 | dsimp only | (leave1; try dsimp only) | fail "no step"))
    all_goals (try dsimp only)
    all_goals exact hQ0 _ _ (LeafQ.fin (by k_asm) (by k_asm) ⟨_, ys.toArray, _, _, ns', rfl, hys, a2', hd₂, rfl⟩ (by tb_rel))

end
end

section
open PySem PySem.W PyProof.Rows PySem.Calls LCg LCt
set_option maxRecDepth 100000
set_option maxHeartbeats 8000000
set_option linter.unusedVariables false
section
theorem fresh_Hn : True := by
  w_top off
  exact trivial



set_option hygiene false
set_option hygiene true
-- the tactics of the kit that this text gives a meaning of its own: ktr_rel the entries picked, ktr_unf what stands apart

section
variable {prog : Program} {w : World} {A : Around} {s : Shared} {h₀ : Heap} {L : Addr} {m : Str → Option Value} {env : Env} {elt : Expr} {x x₂ : Str} {scope : Scope} {cl : List (Str × Addr)}
  {S : List (Addr × Obj) → Prop} {P : Nat → Value → Prop} {Fin : List Value → List (Addr × Obj) → Prop} {n : Nat} {news : List (Addr × Obj)}
theorem compP_keep (J : Nat → List Value → Prop) (h0 : J 0 [])
    (step : ∀ i ys v, i < n → J i ys → P i v → ∃ (t : Addr) (ot : Obj) (v₁ v₂ : Value) (nt : Nat), v = .ref t ∧ (t, ot) ∈ news ∧ ot.cls = .type "tuple" ∧ ot.data = .seq #[v₁, v₂] nt ∧
      ∀ I oI C oC D m₂ h tk (E' : Value → Shared → Prop), NsObj oC m₂ → m₂ x = some v₁ → m₂ x₂ = some v₂ → Fr h₀ L h m → News h₀ L h ((I, oI) :: (C, oC) :: (D, lst ys) :: news) → Off3 I C D news → ((@Ne Nat I C) ∧ (@Ne Nat I D) ∧ (@Ne Nat C D)) →
      wpAny (model prog w) A (eval elt (compEnvC scope cl C env)) (CompEnd h₀ L m { s with heap := h, toks := tk } I oI C oC D (lst ys) S (fun y nw' => nw' = news ∧ J (i + 1) (ys ++ [y]))) E' { s with heap := h, toks := tk })
    (fin : ∀ ys, J n ys → Fin ys news) : LCp.CompRestP prog w A h₀ L m env elt x x₂ scope cl s S P Fin n 0 [] news := by
  have all : ∀ k i ys, i + k = n → J i ys → LCp.CompRestP prog w A h₀ L m env elt x x₂ scope cl s S P Fin k i ys news := by
    intro k
    induction k with
    | zero => intro i ys e hJ; exact .zero (fin _ ((by omega : i = n) ▸ hJ))
    | succ k ih =>
      intro i ys e hJ
      refine .succ fun v hP => ?_
      obtain ⟨t, ot, v₁, v₂, nt, h1, h2, h3, h4, h5⟩ := step i ys v (by omega) hJ hP
      exact ⟨t, ot, v₁, v₂, nt, h1, h2, h3, h4, fun I oI C oC D m₂ h tk E' a1 a2 a3 F N off hne => wpAny_mono (h5 I oI C oC D m₂ h tk E' a1 a2 a3 F N off hne) (fun y s'' hy => compEnd_mono hy fun nw' r => r.1 ▸ ih _ _ (by omega) r.2) fun _ _ e => e⟩
  exact all n 0 [] (by omega) h0
end
theorem bools_append : ∀ {vs : List Value} {bs : List Bool} {b : Bool}, LSm.BoolsAre vs bs → LSm.BoolsAre (vs ++ [.bool b]) (bs ++ [b])
  | _, _, b, .nil => .cons b .nil
  | _, _, _, .cons c h => .cons c (bools_append h)
/-- the ranges' pairs -/
def PairsAt (its : Array Value) (R : List (Addr × Obj)) : Prop := ∀ v ∈ its.toList, ∃ t a b x y, v = .ref t ∧ (t, tupO [.int a x, .int b y]) ∈ R
local macro_rules | `(tactic| walk_at "SrcLP") => `(tactic| (k_here; refine Stop.out ?_))
theorem spec_has_number (w : World) (rl : Addr) (its : Array Value) (kk : Nat) (n : Int) (tn : Tok) (R : List (Addr × Obj)) (hp : PairsAt its R) (hs : its.size ≤ 100) (hR : ∀ p ∈ R, p.1 ≠ rl) :
    Spec w 182 30 500 [.ref rl, .int n tn] ((rl, W.listOf its kk) :: R) (fun _ => True) (fun v post => (∃ b, v = .bool b) ∧ post = (rl, W.listOf its kk) :: R) := by
  unfold Spec
  k_fill
  intro dp9z un9z gd9z cn9z cs9z a9z ccd9z cl9z outer9z A₀9z base9z h₀9z L9z m9z s9z Q9z E9z mean9z mg9z mb9z news9z rest9z hB9z hF9z hX9z hN9z hsub9z hrs9z hAp9z hRo9z hT9z hk9z hd9z hu9z hret9z
  first
  | (k_dflt (refine' fr_call hB9z hF9z hX9z hN9z hsub9z hrs9z hAp9z hT9z rfl rfl hk9z ?k6 ?k7 ?k8 ?k9 ?kB hret9z ?_ ?c2 ?c3 ?c4 ?c5; (case k6 => k_is); (case k7 => k_is); (case k8 => ktr_room); (case k9 => exact BindsTo.of_eq rfl); (case c5 => decide); (case kB => exact locs rfl); (case c2 => exact rfl); (case c3 => exact rfl); (case c4 => exact rfl))
     k_whole
     intro g9z' L9z' h9z' tk9z' st9z' hR9z' F9z' N9z' B9z' X9z' T9z'
     have hRo9z' := hRo9z g9z' st9z' hR9z'
     (try dsimp only at hRo9z')
     clear hB9z hF9z hX9z hN9z hsub9z hrs9z hAp9z hRo9z hT9z hret9z st9z' hR9z')
  | (k_dflt (refine' fr_callC hB9z hF9z hX9z hN9z hsub9z hrs9z hAp9z hT9z rfl rfl hk9z ?k6 ?k7 ?k8 ?k9 ?kB ?kD hret9z ?_ ?c2 ?c3 ?c4; (case k6 => k_is); (case k7 => k_is); (case k8 => ktr_room); (case k9 => exact BindsTo.of_eq rfl); (case kB => exact rfl); (case kD => decide +kernel); (case c2 => exact rfl); (case c3 => exact rfl); (case c4 => exact rfl))
     k_whole
     intro g9z' L9z' h9z' tk9z' cells9z' st9z' hR9z' F9z' N9z' Y9z' B9z' X9z' T9z' l19z
     have hRo9z' := hRo9z g9z' st9z' hR9z'
     (try dsimp only at hRo9z')
     clear hB9z hF9z hX9z hN9z hsub9z hrs9z hAp9z hRo9z hT9z hret9z st9z' hR9z'
     (try k_lt l19z)
     k_cells Y9z'
     (try dsimp only [List.cons_append, List.nil_append] at N9z'))
  (try dsimp only)
  (try k_fold)
  refine gen_Q fun Q0 hQ0 => ?_
  (repeat' (first | (k_unfold; (try dsimp only)) | (k_end; wrow_close) | (with_reducible first | (k_here; (show wpAny _ _ (call (Value.builtin "any") [Value.ref _]) _ _ _); k_dflt (refine LSm.any_bools (by k_asm) (by k_asm) (by rfl) (News.isList (by k_asm) (by k_mem)) (by assumption) ?_); intro h' tk' F' N') | (k_here; (show wpAny _ _ (eval (Expr.ListComp _ _ _ _) _) _ _ _); k_dflt (refine LCp.ListComp_P (F₀ := by k_asm) (by with_unfolding_all rfl) (by decide) (by rfl) (by decide) (by rfl) (by rfl) (by decide) ?_))) | walk1 | dsimp only | (leave1; try dsimp only) | fail "no step"))
  all_goals (try dsimp only)
  unfold Stop
  refine LCp.SrcLP.ledger rfl (by k_asm) (by k_asm) (k := kk) (by k_mem) (by rw [sizeLine_eq]; omega) fun g₂ => ?_
  refine compP_keep (fun i ys => ∃ bs, LSm.BoolsAre ys bs) ⟨[], .nil⟩ ?step ?done
  case step =>
    intro i ys v hi hys hP
    refine gen_P fun G9 kG9 => ?_
    obtain ⟨bs, hys⟩ := hys
    obtain ⟨t, a, b, x, y, rfl, hm⟩ := hp v (List.mem_of_getElem? (by simpa using hP))
    refine kG9 ?_
    clear kG9
    refine ⟨t, _, .int a x, .int b y, 0, rfl, List.Mem.tail _ (List.Mem.tail _ hm), rfl, rfl, ?_⟩
    intro I oI C oC D m₂ h tk E' hC hx hy F N off hne'
    (repeat' (first | (k_unfold; (try dsimp only)) | (k_end; wrow_close) | (with_reducible first | (k_here; (show wpAny _ _ (call (Value.builtin "any") [Value.ref _]) _ _ _); k_dflt (refine LSm.any_bools (by k_asm) (by k_asm) (by rfl) (News.isList (by k_asm) (by k_mem)) (by assumption) ?_); intro h' tk' F' N') | (k_here; (show wpAny _ _ (eval (Expr.ListComp _ _ _ _) _) _ _ _); k_dflt (refine LCp.ListComp_P (F₀ := by k_asm) (by with_unfolding_all rfl) (by decide) (by rfl) (by decide) (by rfl) (by rfl) (by decide) ?_))) | walk1 | dsimp only | (leave1; try dsimp only) | fail "no step"))
    all_goals (try dsimp only)
    all_goals exact compEnd_keep (by k_asm) (by k_asm) (fun p hp => hp) off (.inr ⟨_, by k_mem, rfl, _, rfl⟩) ⟨_, bools_append hys⟩
  case done =>
    intro ys hys
    refine gen_P fun G9 kG9 => ?_
    obtain ⟨bs, hys⟩ := hys
    refine kG9 ?_
    clear kG9
    (repeat' (first | (k_unfold; (try dsimp only)) | (k_end; wrow_close) | (with_reducible first | (k_here; (show wpAny _ _ (call (Value.builtin "any") [Value.ref _]) _ _ _); k_dflt (refine LSm.any_bools (by k_asm) (by k_asm) (by rfl) (News.isList (by k_asm) (by k_mem)) (by assumption) ?_); intro h' tk' F' N') | (k_here; (show wpAny _ _ (eval (Expr.ListComp _ _ _ _) _) _ _ _); k_dflt (refine LCp.ListComp_P (F₀ := by k_asm) (by with_unfolding_all rfl) (by decide) (by rfl) (by decide) (by rfl) (by rfl) (by decide) ?_))) | walk1 | dsimp only | (leave1; try dsimp only) | fail "no step"))
    all_goals (try dsimp only)
    all_goals exact hQ0 _ _ (LeafQ.fin (by k_asm) (by k_asm) ⟨⟨_, rfl⟩, rfl⟩ (by tb_rel))

end
end

section
open PySem PySem.W PyProof.Rows PySem.Calls LCg LCt
set_option maxRecDepth 100000
set_option maxHeartbeats 1500000
set_option linter.unusedVariables false
section
theorem fresh_Na : True := by
  w_top off
  exact trivial
local macro_rules | `(tactic| walk_at "no") => `(tactic| fail)


set_option hygiene false
set_option hygiene true
-- the tactics of the kit that this text gives a meaning of its own: ktr_rel the entries picked, ktr_unf what stands apart
set_option hygiene false
set_option hygiene true
set_option hygiene false
set_option hygiene true

local macro_rules | `(tactic| walk_at "CompSrcT") => `(tactic| (k_here; refine Stop.out ?_))
theorem off_R {I C D : Addr} {nw R : List (Addr × Obj)} (h : LCg.Off3 I C D nw) (hs : ∀ p ∈ R, p ∈ nw) : (∀ p ∈ R, p.1 ≠ I) ∧ (∀ p ∈ R, p.1 ≠ C) ∧ ∀ p ∈ R, p.1 ≠ D :=
  ⟨fun p hp => (h.mem p (hs p hp)).1, fun p hp => (h.mem p (hs p hp)).2.1, fun p hp => (h.mem p (hs p hp)).2.2⟩
theorem allLt_ne {d : Addr} {e : Nat} (he : d ≤ e) : ∀ {l : List (Addr × Obj)}, AllLt d l → ∀ p ∈ l, p.1 ≠ e
  | [], _, _, h => nomatch h
  | q :: r, h, p, hp => by
    cases hp with
    | head => exact Nat.ne_of_lt (Nat.lt_of_lt_of_le h.1 he)
    | tail _ hp => exact allLt_ne he h.2 p hp
def AckPost (w : World) (keep : List (Addr × Obj)) (ks : List Int) (v : Value) (post : List (Addr × Obj)) : Prop :=
  ∃ D its k li, v = .ref D ∧ IntsAre its.toList li ∧ li.Nodup ∧ li.Pairwise (· ≤ ·) ∧ (∀ x ∈ li, x ∈ ks) ∧ li.length ≤ ks.length ∧ post = (D, W.listOf its k) :: keep
theorem spec_newly_acked (w : World) (sl rl : Addr) (sts its : Array Value) (sk kk : Nat) (ks : List Int) (R : List (Addr × Obj)) (hp : PairsAt its R) (hs : its.size ≤ 100) (hR : ∀ p ∈ R, p.1 ≠ rl) (hR2 : ∀ p ∈ R, p.1 ≠ sl) (hne : sl ≠ rl)
    (hints : IntsAre sts.toList ks) (hnd : ks.Nodup) (h64 : ks.length < 64) :
    Spec w 187 60 900 [.ref sl, .ref rl] ((sl, W.listOf sts sk) :: (rl, W.listOf its kk) :: R) (fun _ => True) (AckPost w [(sl, W.listOf sts sk), (rl, W.listOf its kk)] ks) := by
  unfold Spec
  k_fill
  intro dp9z un9z gd9z cn9z cs9z a9z ccd9z cl9z outer9z A₀9z base9z h₀9z L9z m9z s9z Q9z E9z mean9z mg9z mb9z news9z rest9z hB9z hF9z hX9z hN9z hsub9z hrs9z hAp9z hRo9z hT9z hk9z hd9z hu9z hret9z
  first
  | (k_dflt (refine' fr_call hB9z hF9z hX9z hN9z hsub9z hrs9z hAp9z hT9z rfl rfl hk9z ?k6 ?k7 ?k8 ?k9 ?kB hret9z ?_ ?c2 ?c3 ?c4 ?c5; (case k6 => k_is); (case k7 => k_is); (case k8 => ktr_room); (case k9 => exact BindsTo.of_eq rfl); (case c5 => decide); (case kB => exact locs rfl); (case c2 => exact rfl); (case c3 => exact rfl); (case c4 => exact rfl))
     k_whole
     intro g9z' L9z' h9z' tk9z' st9z' hR9z' F9z' N9z' B9z' X9z' T9z'
     have hRo9z' := hRo9z g9z' st9z' hR9z'
     (try dsimp only at hRo9z')
     clear hB9z hF9z hX9z hN9z hsub9z hrs9z hAp9z hRo9z hT9z hret9z st9z' hR9z')
  | (k_dflt (refine' fr_callC hB9z hF9z hX9z hN9z hsub9z hrs9z hAp9z hT9z rfl rfl hk9z ?k6 ?k7 ?k8 ?k9 ?kB ?kD hret9z ?_ ?c2 ?c3 ?c4; (case k6 => k_is); (case k7 => k_is); (case k8 => ktr_room); (case k9 => exact BindsTo.of_eq rfl); (case kB => exact rfl); (case kD => decide +kernel); (case c2 => exact rfl); (case c3 => exact rfl); (case c4 => exact rfl))
     k_whole
     intro g9z' L9z' h9z' tk9z' cells9z' st9z' hR9z' F9z' N9z' Y9z' B9z' X9z' T9z' l19z
     have hRo9z' := hRo9z g9z' st9z' hR9z'
     (try dsimp only at hRo9z')
     clear hB9z hF9z hX9z hN9z hsub9z hrs9z hAp9z hRo9z hT9z hret9z st9z' hR9z'
     (try k_lt l19z)
     k_cells Y9z'
     (try dsimp only [List.cons_append, List.nil_append] at N9z'))
  (try dsimp only)
  (try k_fold)
  refine gen_Q fun Q0 hQ0 => ?_
  (repeat' (first | (k_unfold; (try dsimp only)) | (k_end; wrow_close) | (with_reducible first | (k_here; (show wpAny _ _ (eval (Expr.ListComp _ _ _ _) _) _ _ _); k_dflt (refine LCt.ListComp_T (F₀ := by k_asm) (by with_unfolding_all rfl) (by decide) (by rfl) (by decide) (by rfl) ?_)) | (k_here; (show wpAny _ _ (call (Value.ref 182) _) _ _ _); k_dflt (refine' Spec.use (spec_has_number _ _ _ _ _ _ _ ?hnp ?hns ?hnr) ?zB ?zF ?zX ?zN ?zP ?zA ?zR ?zT ?zk ?zd ?zu ?_); top_raise; (case hnp | hns | hnr => assumption); (case zP => ktr_rel); top_raiseB; intro v' p' h' tk' F' N' A' P'; obtain ⟨⟨b', e1'⟩, e2'⟩ := P'; subst e1'; subst e2'; replace N' := News.swapR N'; clear A'; top_strB) | (k_here; (show wpAny _ _ (call (Value.builtin "sorted") [Value.ref _]) _ _ _); k_dflt (refine' sorted_at ?soF ?soN ?sod ?soi ?soz ?_; (case soF => k_asm); (case soN => k_asm); (case sod => k_mem); (case soi => first | assumption | exact .cons _ _ .nil); (case soz => first | assumption | omega | decide)); intro D' vs' ns' e' h' F' N' l1 a1' a2' a3'; (try k_lt l1))) | walk1 | dsimp only | (leave1; try dsimp only) | fail "no step"))
  all_goals (try dsimp only)
  rename (∀ p : Addr × Obj, p ∈ (_ :: _ :: R) → p.1 < _) => hl0
  have hl1 := allLt_of hl0
  simp only [AllLt, and_true] at hl1
  have hRL := allLt_ne (Nat.le_succ _) hl1.2.2
  have hsz : sts.size = ks.length := by rw [← Array.length_toList]; exact hints.length
  unfold Stop
  refine LCt.CompSrcT.ledger rfl (by k_asm) (by k_asm) (k := sk) (by k_mem) (by rw [sizeLine_eq]; omega) fun g₂ => ?_
  refine compT_keep (fun i ys => ∃ li, IntsAre ys li ∧ li.Sublist (ks.take i)) ⟨[], .nil, List.Sublist.refl _⟩ ?step ?done
  case step =>
    intro i ys v I oI C oC D m₂ h tk E' hi hys hP hC hx F N off hne'
    refine gen_P fun G9 kG9 => ?_
    obtain ⟨li, hli, hsub⟩ := hys
    obtain ⟨n, t, rfl, hn⟩ := hints.at i v (by simpa using hP)
    obtain ⟨hRI, hRC, hRD⟩ := off_R off (fun p hp => List.Mem.tail _ (List.Mem.tail _ (List.Mem.tail _ hp)))
    have off' := off
    obtain ⟨⟨_, _, _⟩, ⟨_, _, _⟩, ⟨_, _, _⟩, _⟩ := off'
    refine kG9 ?_
    clear kG9
    (repeat' (first | (k_unfold; (try dsimp only)) | (k_end; wrow_close) | (with_reducible first | (k_here; (show wpAny _ _ (eval (Expr.ListComp _ _ _ _) _) _ _ _); k_dflt (refine LCt.ListComp_T (F₀ := by k_asm) (by with_unfolding_all rfl) (by decide) (by rfl) (by decide) (by rfl) ?_)) | (k_here; (show wpAny _ _ (call (Value.ref 182) _) _ _ _); k_dflt (refine' Spec.use (spec_has_number _ _ _ _ _ _ _ ?hnp ?hns ?hnr) ?zB ?zF ?zX ?zN ?zP ?zA ?zR ?zT ?zk ?zd ?zu ?_); top_raise; (case hnp | hns | hnr => assumption); (case zP => ktr_rel); top_raiseB; intro v' p' h' tk' F' N' A' P'; obtain ⟨⟨b', e1'⟩, e2'⟩ := P'; subst e1'; subst e2'; replace N' := News.swapR N'; clear A'; top_strB) | (k_here; (show wpAny _ _ (call (Value.builtin "sorted") [Value.ref _]) _ _ _); k_dflt (refine' sorted_at ?soF ?soN ?sod ?soi ?soz ?_; (case soF => k_asm); (case soN => k_asm); (case sod => k_mem); (case soi => first | assumption | exact .cons _ _ .nil); (case soz => first | assumption | omega | decide)); intro D' vs' ns' e' h' F' N' l1 a1' a2' a3'; (try k_lt l1))) | walk1 | dsimp only | (leave1; try dsimp only) | fail "no step"))
    all_goals (try dsimp only)
    all_goals first
      | (refine' compEnd_keep ?qF ?qN ?qs off ?qS ⟨li ++ [n], IntsAre.append hli (.cons _ _ .nil), ?qa⟩
         (case qF => k_asm)
         (case qN => k_asm)
         (case qs => tb_rel)
         (case qS => exact .inr ⟨_, by k_mem, rfl, _, rfl⟩)
         (case qa => (rw [take_snoc hn]; exact hsub.append (List.Sublist.refl _))))
      | (refine' compEnd_keep ?qF ?qN ?qs off ?qS ⟨li, hli, ?qa⟩
         (case qF => k_asm)
         (case qN => k_asm)
         (case qs => tb_rel)
         (case qS => exact .inr ⟨_, by k_mem, rfl, _, rfl⟩)
         (case qa => (rw [take_snoc hn]; exact hsub.trans (List.sublist_append_left _ _))))
  case done =>
    intro ys hys
    refine gen_P fun G9 kG9 => ?_
    obtain ⟨li, hli, hsub⟩ := hys
    refine kG9 ?_
    clear kG9
    rw [List.take_of_length_le (by omega)] at hsub
    have h64' : li.length < 64 := Nat.lt_of_le_of_lt hsub.length_le h64
    (repeat' (first | (k_unfold; (try dsimp only)) | (k_end; wrow_close) | (with_reducible first | (k_here; (show wpAny _ _ (eval (Expr.ListComp _ _ _ _) _) _ _ _); k_dflt (refine LCt.ListComp_T (F₀ := by k_asm) (by with_unfolding_all rfl) (by decide) (by rfl) (by decide) (by rfl) ?_)) | (k_here; (show wpAny _ _ (call (Value.ref 182) _) _ _ _); k_dflt (refine' Spec.use (spec_has_number _ _ _ _ _ _ _ ?hnp ?hns ?hnr) ?zB ?zF ?zX ?zN ?zP ?zA ?zR ?zT ?zk ?zd ?zu ?_); top_raise; (case hnp | hns | hnr => assumption); (case zP => ktr_rel); top_raiseB; intro v' p' h' tk' F' N' A' P'; obtain ⟨⟨b', e1'⟩, e2'⟩ := P'; subst e1'; subst e2'; replace N' := News.swapR N'; clear A'; top_strB) | (k_here; (show wpAny _ _ (call (Value.builtin "sorted") [Value.ref _]) _ _ _); k_dflt (refine' sorted_at ?soF ?soN ?sod ?soi ?soz ?_; (case soF => k_asm); (case soN => k_asm); (case sod => k_mem); (case soi => first | assumption | exact .cons _ _ .nil); (case soz => first | assumption | omega | decide)); intro D' vs' ns' e' h' F' N' l1 a1' a2' a3'; (try k_lt l1))) | walk1 | dsimp only | (leave1; try dsimp only) | fail "no step"))
    all_goals (try dsimp only)
    rename (IntsAre _ _) => ai
    rename (List.Perm _ _) => ap
    rename (List.Pairwise _ _) => ao
    exact hQ0 _ _ (LeafQ.fin (by k_asm) (by k_asm) ⟨_, _, _, _, rfl, ai, ap.nodup_iff.mpr (hnd.sublist hsub), ao, fun x hx => hsub.subset (ap.mem_iff.mp hx), ap.length_eq ▸ hsub.length_le, rfl⟩ (by tb_rel))

end
end

section
open PySem PySem.W PyProof.Rows PySem.Calls LCg LCt
set_option maxRecDepth 100000
set_option maxHeartbeats 1000000
set_option linter.unusedVariables false
section
theorem fresh_Ab : True := by
  w_top off
  exact trivial



set_option hygiene false
set_option hygiene true
-- the tactics of the kit that this text gives a meaning of its own: ktr_rel the entries picked, ktr_unf what stands apart
section
variable {prog : Program} {w : World} {A : Around} {s : Shared} {h₀ : Heap} {L : Addr} {m : Str → Option Value} {news : List (Addr × Obj)} {E : Value → Shared → Prop} {Q : Value → Shared → Prop} {d : Addr} {o : Obj}
theorem list_sent {ps : List Pk} (hh : A.handled = none) (F : Fr h₀ L s.heap m) (N : News h₀ L s.heap news) (hd : (d, o) ∈ news) (hD : o.IsDictOf (PySem.intKind prog w) (sentOf ps)) (lo : (d == sysModules) = false) (h64 : (sentOf ps).length < 64)
    (h : ∀ D (vs : Array Value) e h' tk, Fr h₀ L h' m → News h₀ L h' ((D, W.listOf vs e) :: news) → (∀ q ∈ news, q.1 < D) → IntsAre vs.toList (ps.map (·.n)) → Q (.ref D) { s with heap := h', toks := tk }) :
    wpAny (model prog w) A (call (.type "list") [.ref d]) Q E s := list_dict hh F N hd hD lo h64 fun D vs e h' tk F' N' l1 a1 => h D vs.toArray e h' tk F' N' l1 (keys_sent ps ▸ a1)
end
set_option hygiene false
set_option hygiene true
set_option hygiene false
set_option hygiene true

theorem spec_acked_by (w : World) (asp dsp ast rl : Addr) (T : Nat → Tok) (nm nn la ak le lt rc ls lm fu un wn hn ec gn : Value) (ost : Obj) (ps : List Pk) (its : Array Value) (kk : Nat) (R : List (Addr × Obj))
    (hD : ost.IsDictOf (intKind PySem.Challenge.rw_pb0526_01.row.prog w) (sentOf ps)) (lo' : (ast == sysModules) = false) (hs0 : ps.length < 64)
    (hp : PairsAt its R) (hs : its.size ≤ 100) (hR : ∀ p ∈ R, p.1 ≠ rl) (hR2 : ∀ p ∈ R, p.1 ≠ asp) (hR3 : ∀ p ∈ R, p.1 ≠ dsp) (hR4 : ∀ p ∈ R, p.1 ≠ ast) 
    (h1 : asp ≠ dsp) (h2 : asp ≠ ast) (h3 : asp ≠ rl) (h4 : dsp ≠ ast) (h5 : dsp ≠ rl) (h6 : ast ≠ rl) :
    Spec w 283 90 1400 [.ref asp, .ref rl] ((asp, instObj 333 dsp) :: (dsp, spD w T nm nn (.ref ast) la ak le lt rc ls lm fu un wn hn ec gn) :: (ast, ost) :: (rl, W.listOf its kk) :: R) (fun _ => True)
      (AckPost w [(asp, instObj 333 dsp), (dsp, spD w T nm nn (.ref ast) la ak le lt rc ls lm fu un wn hn ec gn), (ast, ost), (rl, W.listOf its kk)] (ps.map (·.n))) := by
  have hps : (ps.map (·.n)).Nodup := by have := keysNodup_of_isDictOf hD; rw [keys_sent] at this; exact this
  have hlen : (ps.map (·.n)).length < 64 := by simpa using hs0
  unfold Spec
  k_fill
  intro dp9z un9z gd9z cn9z cs9z a9z ccd9z cl9z outer9z A₀9z base9z h₀9z L9z m9z s9z Q9z E9z mean9z mg9z mb9z news9z rest9z hB9z hF9z hX9z hN9z hsub9z hrs9z hAp9z hRo9z hT9z hk9z hd9z hu9z hret9z
  first
  | (k_dflt (refine' fr_call hB9z hF9z hX9z hN9z hsub9z hrs9z hAp9z hT9z rfl rfl hk9z ?k6 ?k7 ?k8 ?k9 ?kB hret9z ?_ ?c2 ?c3 ?c4 ?c5; (case k6 => k_is); (case k7 => k_is); (case k8 => ktr_room); (case k9 => exact BindsTo.of_eq rfl); (case c5 => decide); (case kB => exact locs rfl); (case c2 => exact rfl); (case c3 => exact rfl); (case c4 => exact rfl))
     k_whole
     intro g9z' L9z' h9z' tk9z' st9z' hR9z' F9z' N9z' B9z' X9z' T9z'
     have hRo9z' := hRo9z g9z' st9z' hR9z'
     (try dsimp only at hRo9z')
     clear hB9z hF9z hX9z hN9z hsub9z hrs9z hAp9z hRo9z hT9z hret9z st9z' hR9z')
  | (k_dflt (refine' fr_callC hB9z hF9z hX9z hN9z hsub9z hrs9z hAp9z hT9z rfl rfl hk9z ?k6 ?k7 ?k8 ?k9 ?kB ?kD hret9z ?_ ?c2 ?c3 ?c4; (case k6 => k_is); (case k7 => k_is); (case k8 => ktr_room); (case k9 => exact BindsTo.of_eq rfl); (case kB => exact rfl); (case kD => decide +kernel); (case c2 => exact rfl); (case c3 => exact rfl); (case c4 => exact rfl))
     k_whole
     intro g9z' L9z' h9z' tk9z' cells9z' st9z' hR9z' F9z' N9z' Y9z' B9z' X9z' T9z' l19z
     have hRo9z' := hRo9z g9z' st9z' hR9z'
     (try dsimp only at hRo9z')
     clear hB9z hF9z hX9z hN9z hsub9z hrs9z hAp9z hRo9z hT9z hret9z st9z' hR9z'
     (try k_lt l19z)
     k_cells Y9z'
     (try dsimp only [List.cons_append, List.nil_append] at N9z'))
  (try dsimp only)
  (try k_fold)
  iterate 19 (first | (with_reducible first | (k_here; (show wpAny _ _ (call (Value.ref 187) _) _ _ _); k_dflt (refine' Spec.use (spec_newly_acked _ _ _ _ _ _ _ _ _ ?hnp ?hns ?hnr ?hnq ?hne ?hni ?hnd ?hnl) ?zB ?zF ?zX ?zN ?zP ?zA ?zR ?zT ?zk ?zd ?zu ?_); top_raise; (case hni | hnp | hns | hnr | hnq => assumption); (case hne => k_ne); (case hnd | hnl => assumption); (case zP => ktr_rel); top_raiseB; intro v' p' h' tk' F' N' A' P'; obtain ⟨aD', aI', aK', aL', e1', a3', a4', a5', a6', a7', e2'⟩ := P'; subst e1'; subst e2'; clear A'; top_strB) | (k_here; (show wpAny _ _ (call (Value.type "list") [Value.ref _]) _ _ _); k_dflt (refine' list_sent ?sdh ?sdF ?sdN ?sdd ?sdD ?sdl ?sdz ?_; (case sdh => rfl); (case sdF => k_asm); (case sdN => k_asm); (case sdd => k_mem); (case sdD => assumption); (case sdl => assumption); (case sdz => ((try simp only [List.length_map]); omega))); intro D' vs' e' h' tk' F' N' l1 a1'; k_dflt (have hRD' : ∀ p ∈ R, p.1 ≠ D' := fun p hp => Nat.ne_of_lt (l1 p (by (repeat (first | assumption | refine List.Mem.tail _ ?_))))); (try k_lt l1))) | walk1)
  k_dflt (refine' Spec.use (spec_newly_acked _ _ _ _ _ _ _ _ _ ?hnp ?hns ?hnr ?hnq ?hne ?hni ?hnd ?hnl) ?zB ?zF ?zX ?zN ?zP ?zA ?zR ?zT ?zk ?zd ?zu ?_)
  (case hni => assumption)
  (case hnp => assumption)
  (case hns => assumption)
  (case hnr => assumption)
  (case hnq => assumption)
  (case hne => k_ne)
  (case hnd => assumption)
  (case hnl => assumption)
  (case zB => k_asm)
  (case zF => k_asm)
  (case zN => k_asm)
  (case zP => ktr_rel)
  (case zA => ktr_unf)
  (case zX => k_asm)
  (case zR => exact fun _ _ _ => trivial)
  (case zT => k_asm)
  (case zk => first | exact rfl | assumption)
  (case zd => ktr_room)
  (case zu => ktr_units)
  intro v' p' h' tk' F' N' A' P'
  obtain ⟨aD', aI', aK', aL', e1', a3', a4', a5', a6', a7', e2'⟩ := P'
  subst e1'; subst e2'; clear A'
  (try dsimp only [List.cons_append, List.nil_append] at N')
  (try dsimp only); (try k_fold)
  (repeat' (first | (k_unfold; (try dsimp only)) | (k_end; wrow_close) | (with_reducible first | (k_here; (show wpAny _ _ (call (Value.ref 187) _) _ _ _); k_dflt (refine' Spec.use (spec_newly_acked _ _ _ _ _ _ _ _ _ ?hnp ?hns ?hnr ?hnq ?hne ?hni ?hnd ?hnl) ?zB ?zF ?zX ?zN ?zP ?zA ?zR ?zT ?zk ?zd ?zu ?_); top_raise; (case hni | hnp | hns | hnr | hnq => assumption); (case hne => k_ne); (case hnd | hnl => assumption); (case zP => ktr_rel); top_raiseB; intro v' p' h' tk' F' N' A' P'; obtain ⟨aD', aI', aK', aL', e1', a3', a4', a5', a6', a7', e2'⟩ := P'; subst e1'; subst e2'; clear A'; top_strB) | (k_here; (show wpAny _ _ (call (Value.type "list") [Value.ref _]) _ _ _); k_dflt (refine' list_sent ?sdh ?sdF ?sdN ?sdd ?sdD ?sdl ?sdz ?_; (case sdh => rfl); (case sdF => k_asm); (case sdN => k_asm); (case sdd => k_mem); (case sdD => assumption); (case sdl => assumption); (case sdz => ((try simp only [List.length_map]); omega))); intro D' vs' e' h' tk' F' N' l1 a1'; k_dflt (have hRD' : ∀ p ∈ R, p.1 ≠ D' := fun p hp => Nat.ne_of_lt (l1 p (by (repeat (first | assumption | refine List.Mem.tail _ ?_))))); (try k_lt l1))) | walk1 | dsimp only | (leave1; try dsimp only) | fail "no step"))
  all_goals (try dsimp only)
  all_goals exact LeafQ.fin (by k_asm) (by k_asm) ⟨_, _, _, _, rfl, a3', a4', a5', a6', a7', rfl⟩ (by tb_rel)
end
end

section
open PySem PySem.W PyProof.Rows PySem.Calls LCg LCt
set_option maxRecDepth 100000
set_option maxHeartbeats 8000000
set_option linter.unusedVariables false
section
theorem fresh_Rg : True := by
  w_top off
  exact trivial
local macro_rules | `(tactic| walk_at "no") => `(tactic| fail)


set_option hygiene false
set_option hygiene true
-- the tactics of the kit that this text gives a meaning of its own: ktr_rel the entries picked, ktr_unf what stands apart

section
variable {prog : Program} {w : World} {A : Around} {s : Shared} {h₀ : Heap} {L : Addr} {m : Str → Option Value} {news news' : List (Addr × Obj)} {E : Value → Shared → Prop}
theorem last_item {value slice : PySem.Expr} {a : Addr} {l : List Value} {n : Nat} {u : Tok} {x : Value} {Q : Value → Shared → Prop} (N : News h₀ L s.heap news) (hm : (a, W.listOf (l ++ [x]).toArray n) ∈ news) (h : Q x s)
    (hs : subscripted slice false (.ref a) (.int (-1) u) = operate [.ref a, .int (-1) u] (getItem (.ref a) (.int (-1) u)) := by with_unfolding_all rfl) (hg : ∀ r, letTemporaryGo value (.ref a) r = pure () := by intro _; with_unfolding_all rfl) :
    wpAny (model prog w) A (subscriptTail value slice (.ref a) (.int (-1) u)) Q E s :=
  kim_back N hm rfl rfl (by decide) (by simp only [List.length_append, List.length_cons, List.length_nil]; omega) (by decide) (by
    have e : ((-1 : Int) + ((l ++ [x]).length : Int)).toNat = l.length := by simp only [List.length_append, List.length_cons, List.length_nil]; omega
    rw [e]; simp) h hs hg
theorem setL_last {l : List Value} {y v : Value} : ki_setL (l ++ [y]) l.length v = some (l ++ [v]) := by
  induction l with
  | nil => rfl
  | cons z r ih => show (ki_setL (z :: (r ++ [y])) (r.length + 1) v) = _; unfold ki_setL; rw [ih]; rfl
theorem last_set {a : Addr} {l : List Value} {n : Nat} {u : Tok} {y v : Value} {Q : Unit → Shared → Prop} (F : Fr h₀ L s.heap m) (N : News h₀ L s.heap news) (U : Upd a (W.listOf (l ++ [y]).toArray n) (W.listOf (l ++ [v]).toArray n) news news')
    (h : ∀ h', Fr h₀ L h' m → News h₀ L h' news' → Q () { s with heap := h' }) : wpAny (model prog w) A (setItem (.ref a) (.int (-1) u) v) Q E s :=
  ki_setNeg (j := l.length) F N (by decide) (by decide) (by
    have e : (l ++ [y]).toArray.size = l.length + 1 := by simp
    rw [e]
    unfold seqIndex?
    simp only [show ((-1 : Int) < 0) = True from by simp, if_true]
    rw [if_pos (by simp only [Bool.and_eq_true, decide_eq_true_eq]; omega)]
    congr 1
    omega) setL_last U h
theorem append_L {D : Addr} {l : List Value} {n : Nat} {x : Value} {Q : Value → Shared → Prop} (F : Fr h₀ L s.heap m) (N : News h₀ L s.heap news) (U : Upd D (W.listOf l.toArray n) (W.listOf (l ++ [x]).toArray (n + 1)) news news')
    (h : ∀ h', Fr h₀ L h' m → News h₀ L h' news' → Q .none { s with heap := h' }) (hsz : l.length ≤ sizeLine) : wpAny (model prog w) A (call (.builtin "list.append") [.ref D, x]) Q E s :=
  append_K (its := l.toArray) F N (by rw [List.push_toArray]; exact U) h (by rw [List.size_toArray]; exact hsz)
theorem ne_none {a b : Addr} {l : List Value} {x : Value} {n k : Nat} {R : List (Addr × Obj)} {Q : Value → Shared → Prop} (N : News h₀ L s.heap news) (hp : PairsAt (l ++ [x]).toArray R) (hR : ∀ p ∈ R, p ∈ news) (ha : (a, W.listOf (l ++ [x]).toArray n) ∈ news) (hb : (b, W.listOf #[] k) ∈ news)
    (hu : A.units + 64 < cLine) (h : Q (.bool true) s) : wpAny (model prog w) A (compareOp .NotEq (.ref a) (.ref b)) Q E s := by
  have key : ∀ vs : List Value, (∀ v ∈ vs, ∃ t a b x y, v = Value.ref t ∧ (t, tupO [.int a x, .int b y]) ∈ R) → ∃ ds : List (Int × Int), ds.length = vs.length ∧ ReadsAll s.heap vs (ds.map fun d => PyData.tuple [.int d.1, .int d.2]) [] := by
    intro vs
    induction vs with
    | nil => intro _; exact ⟨[], rfl, .nil⟩
    | cons v r ih =>
      intro hv
      obtain ⟨ds, e, hd⟩ := ih fun v hv' => hv v (.tail _ hv')
      obtain ⟨t, a1, b1, x1, y1, rfl, ht⟩ := hv v (.head _)
      refine ⟨(a1, b1) :: ds, by simp [e], ?_⟩
      exact ReadsAll.cons (as := []) (Reads.tuple (N _ (hR _ ht)).1 rfl rfl (ReadsAll.cons (as := []) (.int _ _) (ReadsAll.cons (as := []) (.int _ _) .nil))) hd
  obtain ⟨ds, e, hd⟩ := key (l ++ [x]) (by simpa [PairsAt] using hp)
  have hlay : ∀ ds : List (Int × Int), PyData.canLayAll0 (ds.map fun d => PyData.tuple [.int d.1, .int d.2]) = true := by
    intro ds
    induction ds with
    | nil => rfl
    | cons _ _ ih => simp [PyData.canLayAll0, PyData.canLay0, ih]
  have hdep : ∀ ds : List (Int × Int), PyData.depthAll (ds.map fun d => PyData.tuple [.int d.1, .int d.2]) ≤ 1 := by
    intro ds
    induction ds with
    | nil => decide
    | cons _ _ ih => simp only [List.map_cons, PyData.depthAll, PyData.depth]; omega
  refine ne_dataH (da := .list (ds.map fun d => PyData.tuple [.int d.1, .int d.2])) (db := .list []) (.list (N _ ha).1 rfl rfl hd) (.list (N _ hb).1 rfl rfl .nil) ?_ rfl hu ?_
  · unfold SeqAt.shaped
    rw [Bool.and_eq_true]
    exact ⟨by simp only [PyData.canLay0]; exact hlay ds, decide_eq_true (by have := hdep ds; simp only [PyData.depth]; omega)⟩
  · cases ds with
    | nil => simp at e
    | cons d r => exact h
end
def RgJ (q1 q2 q3 : Addr × Obj) (fl : Addr) (i : Nat) (nw : List (Addr × Obj)) : Prop :=
  ∃ (l : List Value) (k : Nat) (R : List (Addr × Obj)), PairsAt l.toArray R ∧ l.length ≤ i ∧ ((∀ p ∈ R, p.1 ≠ fl) ∧ (∀ p ∈ R, p.1 ≠ q1.1) ∧ (∀ p ∈ R, p.1 ≠ q2.1) ∧ (∀ p ∈ R, p.1 ≠ q3.1)) ∧ nw = q1 :: q2 :: (fl, W.listOf l.toArray k) :: q3 :: R
theorem rg_end {g h' : Heap} {L I fl q : Addr} {oI : Obj} {m' m : Str → Option Value} {all R src : List (Addr × Obj)} {q1 q2 q3 : Addr × Obj} {s₁ : Shared} {tk i k : Nat} {l : List Value} {xs : List Str} {a b : Int} {ta tb : Tok}
    (F : Fr g L h' m') (N : News g L h' all) (hI : (I, oI) ∈ all) (h1 : q1 ∈ all) (h2 : q2 ∈ all) (h3 : (fl, W.listOf (l ++ [Value.ref q]).toArray k) ∈ all) (h4 : q3 ∈ all) (h5 : (q, tupO [.int a ta, .int b tb]) ∈ all) (h6 : ∀ p ∈ R, p ∈ all)
    (hp : PairsAt l.toArray R) (hl : l.length ≤ i) (r : (∀ p ∈ R, p.1 ≠ fl) ∧ (∀ p ∈ R, p.1 ≠ q1.1) ∧ (∀ p ∈ R, p.1 ≠ q2.1) ∧ (∀ p ∈ R, p.1 ≠ q3.1)) (rI : ∀ p ∈ R, p.1 ≠ I)
    (f1 : q ≠ fl) (f2 : q ≠ q1.1) (f3 : q ≠ q2.1) (f4 : q ≠ q3.1) (f5 : q ≠ I)
    (e1 : q1.1 ≠ I) (e2 : q2.1 ≠ I) (e3 : fl ≠ I) (e4 : q3.1 ≠ I) (hs : ∀ p ∈ src, p ∈ [q1]) (hm : ∀ y, y ∉ xs → m' y = m y) :
    ForEnd g L s₁ I oI src (fun m' nw => RgJ q1 q2 q3 fl (i + 1) nw ∧ ∀ y, y ∉ xs → m' y = m y) { s₁ with heap := h', toks := tk } := by
  refine ForEnd.of (nw := q1 :: q2 :: (fl, W.listOf (l ++ [Value.ref q]).toArray k) :: q3 :: (q, tupO [.int a ta, .int b tb]) :: R) F N ⟨⟨l ++ [Value.ref q], k, (q, tupO [.int a ta, .int b tb]) :: R, ?_, ?_, ⟨?_, ?_, ?_, ?_⟩, rfl⟩, hm⟩ hI ?_ ?_ ?_
  · intro v hv
    simp only [List.mem_append, List.mem_singleton] at hv
    rcases hv with hv | rfl
    · obtain ⟨t, a, b, x, y, e, ht⟩ := hp v (by simpa using hv)
      exact ⟨t, a, b, x, y, e, .tail _ ht⟩
    · exact ⟨q, a, b, ta, tb, rfl, .head _⟩
  · simp only [List.length_append, List.length_cons, List.length_nil]; omega
  · exact List.forall_mem_cons.mpr ⟨f1, r.1⟩
  · exact List.forall_mem_cons.mpr ⟨f2, r.2.1⟩
  · exact List.forall_mem_cons.mpr ⟨f3, r.2.2.1⟩
  · exact List.forall_mem_cons.mpr ⟨f4, r.2.2.2⟩
  · exact sub_cons h1 (sub_cons h2 (sub_cons h3 (sub_cons h4 (sub_cons h5 h6))))
  · exact List.forall_mem_cons.mpr ⟨e1, List.forall_mem_cons.mpr ⟨e2, List.forall_mem_cons.mpr ⟨e3, List.forall_mem_cons.mpr ⟨e4, List.forall_mem_cons.mpr ⟨f5, rI⟩⟩⟩⟩⟩
  · intro p hp
    rw [List.mem_singleton.mp (hs p hp)]
    exact .head _
set_option hygiene false
set_option hygiene true
theorem spec_law_ranges (w : World) (da : Addr) (o : Obj) (kvs : List (Int × Value)) (hD : o.IsDictOf (intKind PySem.Challenge.rw_pb0526_01.row.prog w) kvs) (lo' : (da == sysModules) = false) (hs : kvs.length ≤ 4) :
    Spec w 358 60 900 [.ref da] [(da, o)] (fun _ => True) (fun v post => ∃ rl its k R, v = .ref rl ∧ PairsAt its R ∧ its.size ≤ 4 ∧ (∀ p ∈ R, p.1 ≠ rl) ∧ (∀ p ∈ R, p.1 ≠ da) ∧ rl ≠ da ∧ post = (da, o) :: (rl, W.listOf its k) :: R) := by
  unfold Spec
  k_fill
  intro dp9z un9z gd9z cn9z cs9z a9z ccd9z cl9z outer9z A₀9z base9z h₀9z L9z m9z s9z Q9z E9z mean9z mg9z mb9z news9z rest9z hB9z hF9z hX9z hN9z hsub9z hrs9z hAp9z hRo9z hT9z hk9z hd9z hu9z hret9z
  first
  | (k_dflt (refine' fr_call hB9z hF9z hX9z hN9z hsub9z hrs9z hAp9z hT9z rfl rfl hk9z ?k6 ?k7 ?k8 ?k9 ?kB hret9z ?_ ?c2 ?c3 ?c4 ?c5; (case k6 => k_is); (case k7 => k_is); (case k8 => ktr_room); (case k9 => exact BindsTo.of_eq rfl); (case c5 => decide); (case kB => exact locs rfl); (case c2 => exact rfl); (case c3 => exact rfl); (case c4 => exact rfl))
     k_whole
     intro g9z' L9z' h9z' tk9z' st9z' hR9z' F9z' N9z' B9z' X9z' T9z'
     have hRo9z' := hRo9z g9z' st9z' hR9z'
     (try dsimp only at hRo9z')
     clear hB9z hF9z hX9z hN9z hsub9z hrs9z hAp9z hRo9z hT9z hret9z st9z' hR9z')
  | (k_dflt (refine' fr_callC hB9z hF9z hX9z hN9z hsub9z hrs9z hAp9z hT9z rfl rfl hk9z ?k6 ?k7 ?k8 ?k9 ?kB ?kD hret9z ?_ ?c2 ?c3 ?c4; (case k6 => k_is); (case k7 => k_is); (case k8 => ktr_room); (case k9 => exact BindsTo.of_eq rfl); (case kB => exact rfl); (case kD => decide +kernel); (case c2 => exact rfl); (case c3 => exact rfl); (case c4 => exact rfl))
     k_whole
     intro g9z' L9z' h9z' tk9z' cells9z' st9z' hR9z' F9z' N9z' Y9z' B9z' X9z' T9z' l19z
     have hRo9z' := hRo9z g9z' st9z' hR9z'
     (try dsimp only at hRo9z')
     clear hB9z hF9z hX9z hN9z hsub9z hrs9z hAp9z hRo9z hT9z hret9z st9z' hR9z'
     (try k_lt l19z)
     k_cells Y9z'
     (try dsimp only [List.cons_append, List.nil_append] at N9z'))
  (try dsimp only)
  (try k_fold)
  refine gen_Q fun Q0 hQ0 => ?_
  iterate 27 (first | (with_reducible first | (k_here; (show wpAny _ _ (call (Value.builtin "list.append") [Value.ref _, _]) _ _ _); k_dflt (refine' append_L ?k1 ?k2 ?k3 ?_ ?z; (case k1 => k_asm); (case k2 => k_asm); (case k3 => k_upd); (case z => (rw [sizeLine_eq]; (try simp only [List.length_append, List.length_cons, List.length_nil]); omega)); k_whole); intro h' F' N') | (k_here; (show wpAny _ _ (setItem (Value.ref _) (Value.int _ _) _) _ _ _); k_dflt (refine' last_set ?lsF ?lsN ?lsU ?_; (case lsF => k_asm); (case lsN => k_asm); (case lsU => k_upd)); intro h' F' N'; (try dsimp only [List.nil_append, List.cons_append] at N')) | (k_here; (show wpAny _ _ (subscriptTail _ _ (Value.ref _) (Value.int (-1) _)) _ _ _); k_dflt (refine' last_item ?liN ?lim ?_ ?lis ?lig; (case liN => k_asm); (case lim => k_mem); (case lis => with_unfolding_all rfl); (case lig => (intro _; with_unfolding_all rfl)))) | (k_here; (show wpAny _ _ (compareOp CmpOp.NotEq (Value.ref _) (Value.ref _)) _ _ _); k_dflt (refine' ne_none ?nnN ?nnp ?nnR ?nna ?nnb ?nnu ?_; (case nnN => k_asm); (case nnp => assumption); (case nnR => tb_rel); (case nna => k_mem); (case nnb => k_mem); (case nnu => ktr_units))) | (k_here; (show wpAny _ _ (subscriptTail _ _ (Value.ref _) (Value.ref _)) _ _ _); k_dflt (refine' krv_ints ?rvF ?rvN ?rvl ?rvk ?rvi ?_ ?rvs ?rvt ?rvz; (case rvF => k_asm); (case rvN => k_asm); (case rvl => exact News.isList (by k_asm) (by k_mem)); (case rvk => exact IsPart.int _ _); (case rvi => assumption); (case rvs => with_unfolding_all rfl); (case rvt => kmk_pure); (case rvz => (rw [sizeLine_eq, List.size_toArray, IntsAre.length (by assumption), List.Perm.length_eq (by assumption), List.length_map]; omega))); intro D2' ws' h' F' N' l1 b1' b2'; (try k_lt l1)) | (k_here; (show wpAny _ _ (call (Value.builtin "sorted") [Value.ref _]) _ _ _); k_dflt (refine' sorted_dict ?sdh ?sdF ?sdN ?sdd ?sdD ?sdl ?sdz ?_; (case sdh => rfl); (case sdF => k_asm); (case sdN => k_asm); (case sdd => k_mem); (case sdD => assumption); (case sdl => assumption); (case sdz => ((try simp only [List.length_map]); omega))); intro D' vs' ns' e' h' tk' F' N' l1 a1' a2' a3'; (try k_lt l1))) | walk1)
  all_goals (try dsimp only)
  have hlen : ws'.length ≤ 4 := by rw [IntsAre.length (by assumption), List.length_reverse, List.Perm.length_eq (by assumption), List.length_map]; exact hs
  refine for_list' (l := D2') (o := W.listOf ws'.toArray 0) rfl (by k_asm) (by k_asm) (by k_mem) rfl rfl [Str.ofString "number"] (by decide)
    (fun i m₁ nw => RgJ _ _ _ _ i nw) ⟨[], 0, [], (fun _ h => by simp at h), Nat.zero_le _, ⟨(fun _ h => nomatch h), (fun _ h => nomatch h), (fun _ h => nomatch h), (fun _ h => nomatch h)⟩, rfl⟩ ?step ?done
  case step =>
    intro i v m₁ nw I oI h tk hv hJ hdm hnI F N
    refine gen_P fun G9 kG9 => ?_
    obtain ⟨l, k, R, hp, hl, ⟨r1, r2, r3, r4⟩, rfl⟩ := hJ
    dsimp only at r1 r2 r3 r4
    obtain ⟨tv, rfl⟩ := IntsAre.int_at b1' i v (by simpa using hv)
    refine kG9 ?_
    clear kG9
    generalize hn : ns'.reverse.getD i 0 = n at *
    have hi : i < ws'.length := by have := (Array.getElem?_eq_some_iff.mp hv).1; simpa using this
    simp only [all_cons] at hnI
    refine gen_P fun G9 kG9 => ?_
    obtain ⟨n1, n2, n3, n4, n5⟩ := hnI
    refine kG9 ?_
    clear kG9
    rcases List.eq_nil_or_concat l with rfl | ⟨l0, x, rfl⟩
    · (repeat' (first | (k_unfold; (try dsimp only)) | (k_end; wrow_close) | (with_reducible first | (k_here; (show wpAny _ _ (call (Value.builtin "list.append") [Value.ref _, _]) _ _ _); k_dflt (refine' append_L ?k1 ?k2 ?k3 ?_ ?z; (case k1 => k_asm); (case k2 => k_asm); (case k3 => k_upd); (case z => (rw [sizeLine_eq]; (try simp only [List.length_append, List.length_cons, List.length_nil]); omega)); k_whole); intro h' F' N') | (k_here; (show wpAny _ _ (setItem (Value.ref _) (Value.int _ _) _) _ _ _); k_dflt (refine' last_set ?lsF ?lsN ?lsU ?_; (case lsF => k_asm); (case lsN => k_asm); (case lsU => k_upd)); intro h' F' N'; (try dsimp only [List.nil_append, List.cons_append] at N')) | (k_here; (show wpAny _ _ (subscriptTail _ _ (Value.ref _) (Value.int (-1) _)) _ _ _); k_dflt (refine' last_item ?liN ?lim ?_ ?lis ?lig; (case liN => k_asm); (case lim => k_mem); (case lis => with_unfolding_all rfl); (case lig => (intro _; with_unfolding_all rfl)))) | (k_here; (show wpAny _ _ (compareOp CmpOp.NotEq (Value.ref _) (Value.ref _)) _ _ _); k_dflt (refine' ne_none ?nnN ?nnp ?nnR ?nna ?nnb ?nnu ?_; (case nnN => k_asm); (case nnp => assumption); (case nnR => tb_rel); (case nna => k_mem); (case nnb => k_mem); (case nnu => ktr_units))) | (k_here; (show wpAny _ _ (subscriptTail _ _ (Value.ref _) (Value.ref _)) _ _ _); k_dflt (refine' krv_ints ?rvF ?rvN ?rvl ?rvk ?rvi ?_ ?rvs ?rvt ?rvz; (case rvF => k_asm); (case rvN => k_asm); (case rvl => exact News.isList (by k_asm) (by k_mem)); (case rvk => exact IsPart.int _ _); (case rvi => assumption); (case rvs => with_unfolding_all rfl); (case rvt => kmk_pure); (case rvz => (rw [sizeLine_eq, List.size_toArray, IntsAre.length (by assumption), List.Perm.length_eq (by assumption), List.length_map]; omega))); intro D2' ws' h' F' N' l1 b1' b2'; (try k_lt l1)) | (k_here; (show wpAny _ _ (call (Value.builtin "sorted") [Value.ref _]) _ _ _); k_dflt (refine' sorted_dict ?sdh ?sdF ?sdN ?sdd ?sdD ?sdl ?sdz ?_; (case sdh => rfl); (case sdF => k_asm); (case sdN => k_asm); (case sdd => k_mem); (case sdD => assumption); (case sdl => assumption); (case sdz => ((try simp only [List.length_map]); omega))); intro D' vs' ns' e' h' tk' F' N' l1 a1' a2' a3'; (try k_lt l1))) | walk1 | dsimp only | (leave1; try dsimp only) | fail "no step"))
      all_goals (try dsimp only)
      exact rg_end (l := []) (by k_asm) (by k_asm) (by k_mem) (by k_mem) (by k_mem) (by k_mem) (by k_mem) (by k_mem) (by tb_rel) hp (Nat.zero_le _) ⟨r1, r2, r3, r4⟩ n5 (by k_ne) (by k_ne) (by k_ne) (by k_ne) (by k_ne) n1 n2 n3 n4 (by tb_rel)
        (by intro y hy; simp only [List.mem_cons, List.not_mem_nil, or_false] at hy; simp only [hy, if_false, tmp])
    · rw [List.concat_eq_append] at *
      refine gen_P fun G9 kG9 => ?_
      obtain ⟨t0, a0, b0, x0, y0, rfl, ht0⟩ := hp x (by simp)
      refine kG9 ?_
      clear kG9
      have N9 : News _ _ _ ((t0, tupO [.int a0 x0, .int b0 y0]) :: _) := fun p hp' => by
        rcases List.mem_cons.mp hp' with rfl | hp'
        · exact N _ (by simp only [List.mem_cons]; exact .inr (.inr (.inr (.inr (.inr ht0)))))
        · exact N p hp'
      have z1 := r1 _ ht0
      have z2 := r2 _ ht0
      have z3 := r3 _ ht0
      have z4 := r4 _ ht0
      have z5 := n5 _ ht0
      dsimp only at z1 z2 z3 z4 z5
      clear N
      have hp0 : PairsAt l0.toArray R := fun v hv => hp v (by simp at hv ⊢; exact .inl hv)
      have hl0 : l0.length + 1 ≤ i := by simpa using hl
      (repeat' (first | (k_unfold; (try dsimp only)) | (k_end; wrow_close) | (with_reducible first | (k_here; (show wpAny _ _ (call (Value.builtin "list.append") [Value.ref _, _]) _ _ _); k_dflt (refine' append_L ?k1 ?k2 ?k3 ?_ ?z; (case k1 => k_asm); (case k2 => k_asm); (case k3 => k_upd); (case z => (rw [sizeLine_eq]; (try simp only [List.length_append, List.length_cons, List.length_nil]); omega)); k_whole); intro h' F' N') | (k_here; (show wpAny _ _ (setItem (Value.ref _) (Value.int _ _) _) _ _ _); k_dflt (refine' last_set ?lsF ?lsN ?lsU ?_; (case lsF => k_asm); (case lsN => k_asm); (case lsU => k_upd)); intro h' F' N'; (try dsimp only [List.nil_append, List.cons_append] at N')) | (k_here; (show wpAny _ _ (subscriptTail _ _ (Value.ref _) (Value.int (-1) _)) _ _ _); k_dflt (refine' last_item ?liN ?lim ?_ ?lis ?lig; (case liN => k_asm); (case lim => k_mem); (case lis => with_unfolding_all rfl); (case lig => (intro _; with_unfolding_all rfl)))) | (k_here; (show wpAny _ _ (compareOp CmpOp.NotEq (Value.ref _) (Value.ref _)) _ _ _); k_dflt (refine' ne_none ?nnN ?nnp ?nnR ?nna ?nnb ?nnu ?_; (case nnN => k_asm); (case nnp => assumption); (case nnR => tb_rel); (case nna => k_mem); (case nnb => k_mem); (case nnu => ktr_units))) | (k_here; (show wpAny _ _ (subscriptTail _ _ (Value.ref _) (Value.ref _)) _ _ _); k_dflt (refine' krv_ints ?rvF ?rvN ?rvl ?rvk ?rvi ?_ ?rvs ?rvt ?rvz; (case rvF => k_asm); (case rvN => k_asm); (case rvl => exact News.isList (by k_asm) (by k_mem)); (case rvk => exact IsPart.int _ _); (case rvi => assumption); (case rvs => with_unfolding_all rfl); (case rvt => kmk_pure); (case rvz => (rw [sizeLine_eq, List.size_toArray, IntsAre.length (by assumption), List.Perm.length_eq (by assumption), List.length_map]; omega))); intro D2' ws' h' F' N' l1 b1' b2'; (try k_lt l1)) | (k_here; (show wpAny _ _ (call (Value.builtin "sorted") [Value.ref _]) _ _ _); k_dflt (refine' sorted_dict ?sdh ?sdF ?sdN ?sdd ?sdD ?sdl ?sdz ?_; (case sdh => rfl); (case sdF => k_asm); (case sdN => k_asm); (case sdd => k_mem); (case sdD => assumption); (case sdl => assumption); (case sdz => ((try simp only [List.length_map]); omega))); intro D' vs' ns' e' h' tk' F' N' l1 a1' a2' a3'; (try k_lt l1))) | walk1 | dsimp only | (leave1; try dsimp only) | fail "no step"))
      all_goals (try dsimp only)
      · exact rg_end (l := l0) (by k_asm) (by k_asm) (by k_mem) (by k_mem) (by k_mem) (by k_mem) (by k_mem) (by k_mem) (by tb_rel) hp0 (by omega) ⟨r1, r2, r3, r4⟩ n5 (by k_ne) (by k_ne) (by k_ne) (by k_ne) (by k_ne) n1 n2 n3 n4 (by tb_rel)
          (by intro y hy; simp only [List.mem_cons, List.not_mem_nil, or_false] at hy; simp only [hy, if_false, tmp])
      · exact rg_end (l := l0 ++ [Value.ref t0]) (by k_asm) (by k_asm) (by k_mem) (by k_mem) (by k_mem) (by k_mem) (by k_mem) (by k_mem) (by tb_rel) hp (by simp; omega) ⟨r1, r2, r3, r4⟩ n5 (by k_ne) (by k_ne) (by k_ne) (by k_ne) (by k_ne) n1 n2 n3 n4 (by tb_rel)
          (by intro y hy; simp only [List.mem_cons, List.not_mem_nil, or_false] at hy; simp only [hy, if_false, tmp])
  case done =>
    intro h' tk m' nw F N hJ
    refine gen_P fun G9 kG9 => ?_
    obtain ⟨l, k, R, hp, hl, ⟨r1, r2, r3, r4⟩, rfl⟩ := hJ
    refine kG9 ?_
    clear kG9
    dsimp only at r1 r2 r3 r4
    have hsz : l.toArray.size ≤ 4 := by simp at hl ⊢; omega
    (repeat' (first | (k_unfold; (try dsimp only)) | (k_end; wrow_close) | (with_reducible first | (k_here; (show wpAny _ _ (call (Value.builtin "list.append") [Value.ref _, _]) _ _ _); k_dflt (refine' append_L ?k1 ?k2 ?k3 ?_ ?z; (case k1 => k_asm); (case k2 => k_asm); (case k3 => k_upd); (case z => (rw [sizeLine_eq]; (try simp only [List.length_append, List.length_cons, List.length_nil]); omega)); k_whole); intro h' F' N') | (k_here; (show wpAny _ _ (setItem (Value.ref _) (Value.int _ _) _) _ _ _); k_dflt (refine' last_set ?lsF ?lsN ?lsU ?_; (case lsF => k_asm); (case lsN => k_asm); (case lsU => k_upd)); intro h' F' N'; (try dsimp only [List.nil_append, List.cons_append] at N')) | (k_here; (show wpAny _ _ (subscriptTail _ _ (Value.ref _) (Value.int (-1) _)) _ _ _); k_dflt (refine' last_item ?liN ?lim ?_ ?lis ?lig; (case liN => k_asm); (case lim => k_mem); (case lis => with_unfolding_all rfl); (case lig => (intro _; with_unfolding_all rfl)))) | (k_here; (show wpAny _ _ (compareOp CmpOp.NotEq (Value.ref _) (Value.ref _)) _ _ _); k_dflt (refine' ne_none ?nnN ?nnp ?nnR ?nna ?nnb ?nnu ?_; (case nnN => k_asm); (case nnp => assumption); (case nnR => tb_rel); (case nna => k_mem); (case nnb => k_mem); (case nnu => ktr_units))) | (k_here; (show wpAny _ _ (subscriptTail _ _ (Value.ref _) (Value.ref _)) _ _ _); k_dflt (refine' krv_ints ?rvF ?rvN ?rvl ?rvk ?rvi ?_ ?rvs ?rvt ?rvz; (case rvF => k_asm); (case rvN => k_asm); (case rvl => exact News.isList (by k_asm) (by k_mem)); (case rvk => exact IsPart.int _ _); (case rvi => assumption); (case rvs => with_unfolding_all rfl); (case rvt => kmk_pure); (case rvz => (rw [sizeLine_eq, List.size_toArray, IntsAre.length (by assumption), List.Perm.length_eq (by assumption), List.length_map]; omega))); intro D2' ws' h' F' N' l1 b1' b2'; (try k_lt l1)) | (k_here; (show wpAny _ _ (call (Value.builtin "sorted") [Value.ref _]) _ _ _); k_dflt (refine' sorted_dict ?sdh ?sdF ?sdN ?sdd ?sdD ?sdl ?sdz ?_; (case sdh => rfl); (case sdF => k_asm); (case sdN => k_asm); (case sdd => k_mem); (case sdD => assumption); (case sdl => assumption); (case sdz => ((try simp only [List.length_map]); omega))); intro D' vs' ns' e' h' tk' F' N' l1 a1' a2' a3'; (try k_lt l1))) | walk1 | dsimp only | (leave1; try dsimp only) | fail "no step"))
    all_goals (try dsimp only)
    exact hQ0 _ _ (LeafQ.fin (by k_asm) (by k_asm) ⟨_, _, _, _, rfl, hp, hsz, r1, r4, by k_ne, rfl⟩ (by tb_rel))

end
end

section
open PySem PySem.W PyProof.Rows PySem.Calls LCg LCt
set_option maxRecDepth 100000
set_option maxHeartbeats 1600000
set_option linter.unusedVariables false
section

theorem list_no_keys : typeLookup (.type "list") "keys" = pure none := am_miss_of_fast (by decide +kernel)
section
variable {prog : Program} {w : World} {A : Around} {s : Shared} {h₀ : Heap} {L d : Addr} {m : Str → Option Value} {news : List (Addr × Obj)} {E : Value → Shared → Prop}
/-- a list has no keys: the error is caught -/
theorem keys_none {a : Addr} {xs : Array Value} {k : Nat} {sl : Array (Option Value)} {Q : Option Value → Shared → Prop} (hx : s.heap.get? a = some { cls := .type "list", dict := none, data := .seq xs k, slots := sl }) (hA : A.handled = none)
    (h : ∀ h' tk e, Heap.NewExcOf s.heap h' e "AttributeError" → Q none { s with heap := h', toks := tk }) : wpAny (model prog w) A (getAttr? (.ref a) "keys") Q E s := by
  obtain ⟨hp, g, d, tk, os⟩ := s
  have hT : ∀ tk', (⟨hp, g, d, tk', os⟩ : Shared).TypeIs (.ref a) "list" := fun _ => ⟨_, hx, rfl⟩
  have f1 := sub_AttributeError
  have f3 := F.slot_list_getattribute.lookup
  have f4 := F.slot_list_getattribute.bind (.ref a)
  have f5 := am_list_getattr_none
  unfold getAttr? getAttrBy? getAttrBy
  repeat (any_goals (first | assumption | exact hT _ | ((with_reducible show wpAny _ _ (call (Value.builtin "list.__getattribute__") _ _) _ _ _); refine call_meets F.slot_list_getattribute (hT _) am_entry_list_getattribute (F.args_list_getattribute_2 _ _) (meets_getattribute_miss_list a xs k sl "keys" _ list_no_keys (by decide) (by size_fits)) ⟨hx, hA, fun h' tk' e hx' => ?_⟩) | wp_step))
  obtain ⟨t', u', he⟩ := hx'.there
  have hTe : ∀ tk', (⟨h', g, d, tk', os⟩ : Shared).TypeIs (.ref e) "AttributeError" := fun _ => ⟨_, he, rfl⟩
  show wpAny _ _ (getattributeRaised _ _ _ _ _ _ _) _ _ _
  unfold getattributeRaised
  repeat (any_goals (first | assumption | exact hTe _ | wp_step))
  all_goals (first | exact h _ _ _ hx'.of | trace_state)
theorem entry_dict_upd : entryFor table "dict.update.loop" = some Builtin.«dict.update.loop» := entryFor_of_tree (by kernel_rfl)
theorem plain_dict_upd : plainId "dict.update.loop" = true := by decide +kernel
/-- the pairs stored one after the other -/
def storedAll (ps : List (Int × Value)) : List (Int × Value) := ps.foldl (fun acc p => stored acc p.1 p.2) []
theorem storedAll_snoc (ps : List (Int × Value)) (p : Int × Value) : storedAll (ps ++ [p]) = stored (storedAll ps) p.1 p.2 := by unfold storedAll; rw [List.foldl_append]; rfl
theorem stored_len {kvs : List (Int × Value)} {k : Int} {v : Value} : (stored kvs k v).length ≤ kvs.length + 1 := by
  unfold stored
  split
  · rw [List.length_map]; omega
  · rw [List.length_append]; simp
theorem storedAll_len (ps : List (Int × Value)) : (storedAll ps).length ≤ ps.length := by
  have key : ∀ (ps acc : List (Int × Value)), (ps.foldl (fun acc p => stored acc p.1 p.2) acc).length ≤ acc.length + ps.length := by
    intro ps
    induction ps with
    | nil => intro acc; exact Nat.le_refl _
    | cons p r ih => intro acc; have h1 := ih (stored acc p.1 p.2); have h2 := stored_len (kvs := acc) (k := p.1) (v := p.2); rw [List.foldl_cons, List.length_cons]; omega
  have := key ps []
  simpa [storedAll] using this
theorem upd_loop {R : Result → Shared → Prop} {I l D : Addr} {its : Array Value} {ps : List (Int × Value)} {h₁ : Heap} (hh : A.handled = none) (hne : l ≠ I) (hDI : D ≠ I) (hDl : D ≠ l)
    (items : ∀ (i : Nat) (v : Value), its[i]? = some v → ∃ t a x b, v = .ref t ∧ t ≠ I ∧ t ≠ D ∧ ps[i]? = some (a, b) ∧ h₁.get? t = some { cls := .type "tuple", data := .seq #[.int a x, b] }) (hlen : ps.length = its.size) (hsz : its.size ≤ 1000) :
    ∀ (k i : Nat) (s : Shared), its.size - i = k → i ≤ its.size → s.heap.IsListIter I l i → s.heap.IsList l its → (∀ t o, h₁.get? t = some o → t ≠ I → t ≠ D → s.heap.get? t = some o) → s.heap.DictOf (intKind prog w) D (storedAll (ps.take i)) →
      (∀ h' tk, h'.DictOf (intKind prog w) D (storedAll ps) → (∀ b o, b ≠ I → b ≠ D → s.heap.get? b = some o → h'.get? b = some o) → R (.ok (.ret .none)) { s with heap := h', toks := tk }) →
      codeAny (model prog w) A (.builtin "dict.update.loop" ⟨[.ref D, .ref I, rawInt (i : Int), .none], []⟩) R s := by
  have hh1 : A.in1.handled = none := hh
  have W := Walks.list (prog := prog) (w := w) (A := A.in1) hh1 I l hne its
  intro k
  induction k with
  | zero =>
    intro i s hk hi hit hl hT hD hR
    have hin : i = its.size := by omega
    subst hin
    refine codeAny_builtin entry_dict_upd ?_
    rw [Around.under_plainId plain_dict_upd _]
    show wpAny _ A.in1 (pyNext (.ref I) >>= _) _ _ s
    refine wpAny_bind (W.done s _ _ ⟨hit, hl⟩ fun h' tk hm => ?_)
    show wpAny _ A.in1 (ret Value.none) _ _ _
    refine wpAny_pure (hR h' tk ?_ fun b o hb _ e => hm b o (by simp [hb]) e)
    rw [← hlen, List.take_length] at hD
    obtain ⟨o, es, ep, ho, r⟩ := hD
    exact ⟨o, es, ep, hm _ _ (by simp [hDI]) ho, r⟩
  | succ k ih =>
    intro i s hk hi hit hl hT hD hR
    have hlt : i < its.size := by omega
    obtain ⟨hp, g, dd, tk0, os⟩ := s
    dsimp only at hit hl hT hD hR
    refine codeAny_builtin entry_dict_upd ?_
    rw [Around.under_plainId plain_dict_upd _]
    show wpAny _ A.in1 (pyNext (.ref I) >>= _) _ _ _
    refine wpAny_bind (W.item i _ _ _ hlt ⟨hit, hl⟩ fun v h' tk hP hst hm => ?_)
    obtain ⟨t, a, x, b, rfl, htI, htD, hps, ht⟩ := items i v hP
    have ht' : h'.get? t = some { cls := .type "tuple", data := .seq #[.int a x, b] } := hm _ _ (by simp [htI]) (hT _ _ ht htI htD)
    have hD' : h'.DictOf (intKind prog w) D (storedAll (ps.take i)) := by
      obtain ⟨o, es, ep, ho, r⟩ := hD
      exact ⟨o, es, ep, hm _ _ (by simp [hDI]) ho, r⟩
    have hTt : Shared.TypeIs ⟨h', g, dd, tk, os⟩ (.ref t) "tuple" := ⟨_, ht', rfl⟩
    dsimp only
    show wpAny _ _ (holding [Value.ref t] _ >>= _) _ _ _
    refine wpAny_bind (wpAny_holding (wpAny_bind (wpAny_tryCatch ?_)))
    unfold Builtin.Dict.pairItems
    refine wpAny_bind (wpAny_typeOf hTt ?_)
    rw [if_pos (by decide)]
    refine wpAny_bind (wpAny_seqItems (s := ⟨h', g, dd, tk, os⟩) ht' rfl (wpAny_pure ?_))
    show wpAny _ _ (holding [Value.int a x, b] (dictSet D (.int a x) b)) _ _ _
    refine wpAny_holding (wpAny_dictSet_pairs (knd := intKind prog w) (s := ⟨h', g, dd, tk, os⟩) (intKind_is _ _ _ _) hD' (fun h2 hd2 hsb => ?_) ?_)
    · refine wpAny_pure ⟨plainId_quiet plain_dict_upd _, ?_⟩
      have hi1 : (i : Int) + 1 = ((i + 1 : Nat) : Int) := by omega
      dsimp only
      rw [hi1]
      have hkeep : ∀ b o, b ≠ I → b ≠ D → hp.get? b = some o → h2.get? b = some o := fun b o h1 h3 e => by rw [hsb.2 b h3]; exact hm b o (by simp [h1]) e
      refine ih (i + 1) ⟨h2, g, dd, tk + 1, os⟩ (by omega) hlt (hst.1.at fun o e => by rw [hsb.2 _ (Ne.symm hDI)]; exact e) (hst.2.at fun o e => by rw [hsb.2 _ (Ne.symm hDl)]; exact e) (fun t o e h1 h3 => hkeep t o h1 h3 (hT t o e h1 h3)) ?_ fun h3 tk3 hd3 hk3 => ?_
      · rw [take_snoc hps, storedAll_snoc]
        exact hd2
      · exact hR h3 tk3 hd3 fun b o h1 h4 e => hk3 b o h1 h4 (hkeep b o h1 h4 e)
    · have h1 := storedAll_len (ps.take i)
      rw [List.length_take] at h1
      rw [sizeLine_eq]
      omega
theorem dict_pairs {l : Addr} {its : Array Value} {n : Nat} {ps : List (Int × Value)} {Q : Value → Shared → Prop} (hh : A.handled = none) (Fh : Fr h₀ L s.heap m) (N : News h₀ L s.heap news) (hl : (l, W.listOf its n) ∈ news) (hbig : h₀.NoLimit)
    (items : ∀ (i : Nat) (v : Value), its[i]? = some v → ∃ t a x b, v = .ref t ∧ ps[i]? = some (a, b) ∧ (t, { cls := .type "tuple", data := .seq #[.int a x, b] }) ∈ news) (hlen : ps.length = its.size) (hsz : its.size ≤ 1000)
    (h : ∀ D o h' tk, Fr h₀ L h' m → News h₀ L h' ((D, o) :: news) → (∀ q ∈ news, q.1 < D) → (D == sysModules) = false → o.IsDictOf (intKind prog w) (storedAll ps) → Q (.ref D) { s with heap := h', toks := tk }) :
    wpAny (model prog w) A (call (.type "dict") [.ref l]) Q E s := by
  obtain ⟨hp, g, dd, tk0, os⟩ := s
  dsimp only at Fh N h
  have hlt : ∀ q ∈ news, q.1 < hp.objs.size := fun q hq => Heap.lt_size (N q hq).1
  refine callType_codes (Q₁ := fun obj s₁ => obj = .ref hp.objs.size ∧ s₁ = ⟨hp.push { cls := .type "dict", data := .dict #[] }, g, dd, tk0, os⟩) PySem.F.kt_called_dict (PySem.F.kt_typeCall_dict_1 _) PySem.F.entry_dict_init (kt_code_dict_new _ ⟨rfl, rfl⟩) ?_
  rintro obj s₁ ⟨rfl, rfl⟩
  have hnew : (hp.push { cls := .type "dict", data := .dict #[] }).DictOf (intKind prog w) hp.objs.size [] := Heap.DictOf.new hp
  refine ⟨hnew.typeIs, PySem.F.args_dict_init_2 _ _, ?_⟩
  unfold Builtin.«dict.__init__»
  refine wpAny_bind ?_
  unfold Builtin.Dict.selfAndRest
  refine wpAny_bind (wpAny_notOrdered_dict hnew.typeIs ?_)
  show wpAny _ _ (pure (hp.objs.size, [Value.ref l])) _ _ _
  refine wpAny_pure ?_
  show wpAny _ _ (Builtin.Dict.updateFrom "dict.__init__" hp.objs.size (.ref l) [] .none) _ _ _
  have hx : (hp.push { cls := .type "dict", data := .dict #[] }).get? l = some (W.listOf its n) := Heap.get?_push_of_some _ (N _ hl).1
  have hTl : Shared.TypeIs ⟨hp.push { cls := .type "dict", data := .dict #[] }, g, dd, tk0, os⟩ (.ref l) "list" := ⟨_, hx, rfl⟩
  unfold Builtin.Dict.updateFrom
  refine wpAny_bind (wpAny_typeOf hTl ?_)
  rw [if_pos (by decide)]
  refine wpAny_bind (keys_none (s := ⟨hp.push { cls := .type "dict", data := .dict #[] }, g, dd, tk0, os⟩) hx hh fun h1 tk1 e hex => ?_)
  dsimp only at hex ⊢
  have hx1 : h1.IsList l its := ⟨_, hex.keeps _ _ hx, rfl, n, rfl⟩
  show wpAny _ _ ((do return ← again (.builtin "dict.update.loop" ⟨[.ref hp.objs.size, ← pyIter (.ref l), rawInt 0, .none], []⟩) : Sem Fin)) _ _ _
  refine wpAny_bind (wpAny_pyIter_list (s := ⟨h1, g, dd, tk1, os⟩) hx1 ?_)
  have hD1 : h1.DictOf (intKind prog w) hp.objs.size [] := by
    obtain ⟨o, es, ep, ho, r⟩ := hnew
    exact ⟨o, es, ep, hex.keeps _ _ ho, r⟩
  have hDlt : hp.objs.size < h1.objs.size := by obtain ⟨o, es, ep, ho, r⟩ := hD1; exact Heap.lt_size ho
  have hllt : l < hp.objs.size := hlt _ hl
  refine wpAny_pure ⟨plainId_quiet plain_dict_upd _, upd_loop (A := A.in1) (I := h1.objs.size) (l := l) (D := hp.objs.size) (its := its) (ps := ps) (h₁ := hp) hh (Nat.ne_of_lt (Nat.lt_trans hllt hDlt)) (Nat.ne_of_lt hDlt) (Nat.ne_of_gt hllt) (fun i v hv => ?_) hlen hsz its.size 0 _ (by omega) (Nat.zero_le _)
    ⟨_, Heap.get?_push_size _ rfl, rfl, rfl⟩ (hx1.push _) (fun t o e _ _ => ?_) (hD1.push _) fun h' tk hd hk => ?_⟩
  · obtain ⟨t, a, x, b, rfl, hps, ht⟩ := items i v hv
    exact ⟨t, a, x, b, rfl, Nat.ne_of_lt (Nat.lt_trans (hlt _ ht) hDlt), Nat.ne_of_lt (hlt _ ht), hps, (N _ ht).1⟩
  · exact Heap.get?_push_of_some _ (hex.keeps _ _ (Heap.get?_push_of_some _ e))
  · have hkeep : ∀ b o, hp.get? b = some o → h'.get? b = some o := fun b o e => by
      have hb : b < hp.objs.size := Heap.lt_size e
      exact hk b o (Nat.ne_of_lt (Nat.lt_trans hb hDlt)) (Nat.ne_of_lt hb) (Heap.get?_push_of_some _ (hex.keeps _ _ (Heap.get?_push_of_some _ e)))
    obtain ⟨o, ho, hod⟩ := Heap.dictOf_iff.mp hd
    refine ⟨rfl, h _ o h' tk (Fh.grownK hkeep) (fun p hp' => ?_) (fun q hq => hlt q hq) (Fh.notModules (modules_low hbig)) hod⟩
    rcases List.mem_cons.mp hp' with rfl | hp'
    · obtain ⟨oL, _, _, hL, _⟩ := Fh.ns
      refine ⟨ho, Nat.ne_of_gt (Heap.lt_size hL), ?_⟩
      cases hq : h₀.get? hp.objs.size with
      | none => rfl
      | some o' => exact absurd (Heap.lt_size (Fh.keep _ _ hq)) (Nat.lt_irrefl _)
    · exact N.grown hkeep p hp'
end
end
end

section
open PySem PySem.W PyProof.Rows PySem.Calls LCg LCt
set_option maxRecDepth 100000
set_option maxHeartbeats 1600000
set_option linter.unusedVariables false
section

section
variable {prog : Program} {w : World} {A : Around} {s : Shared} {h₀ : Heap} {L d : Addr} {m : Str → Option Value} {news : List (Addr × Obj)} {E : Value → Shared → Prop}
theorem max_dict {o : Obj} {kvs : List (Int × Value)} {Q : Value → Shared → Prop} (hh : A.handled = none) (Fh : Fr h₀ L s.heap m) (N : News h₀ L s.heap news) (hd : (d, o) ∈ news) (hD : o.IsDictOf (intKind prog w) kvs) (lo : (d == sysModules) = false)
    (hne : 0 < kvs.length) (h : ∀ M (t : Tok) h' tk, Fr h₀ L h' m → News h₀ L h' news → M ∈ kvs.map (·.1) → Q (.int M t) { s with heap := h', toks := tk }) :
    wpAny (model prog w) A (call (.builtin "max") [.ref d]) Q E s := by
  obtain ⟨ep, hat⟩ := (kda_dict N hd hD).dictAt
  have hdl : d < s.heap.objs.size := Heap.lt_size (N _ hd).1
  have hit : ∀ (i : Nat) (v : Value), (∃ k x, kvs[i]? = some (k, x) ∧ (intKind prog w).is k v = true) → ∃ t, v = .int ((kvs.map (·.1)).getD i 0) t := by
    rintro i v ⟨k, x, hk, hv⟩
    obtain ⟨t, rfl⟩ := PySem.Value.isInt_shape hv
    exact ⟨t, by simp [List.getD, hk]⟩
  refine call_max_walk (wpAny_pyIter_dict lo hat ?_)
  refine ⟨_, _, _, _, _, _, _, rfl, Walks.dictKeys (A := A.in1) hh s.heap.objs.size d (Nat.ne_of_lt hdl) kvs ep, ⟨⟨_, Heap.get?_push_size _ rfl, rfl, rfl⟩, hat.push _⟩, (fun b hb => ?_), hne, CmpOf.ints_gt (fun i => (kvs.map (·.1)).getD i 0) hit, fun v h' tk hP hk => ?_⟩
  · show b < (s.heap.push _).objs.size
    rw [Heap.size_push]
    rcases List.mem_cons.mp hb with rfl | hb
    · exact Nat.lt_succ_self _
    · rw [List.mem_singleton.mp hb]; exact Nat.lt_succ_of_lt hdl
  · have hkeep : ∀ b o, s.heap.get? b = some o → h'.get? b = some o := fun b o e => hk b o (fun hm => absurd (List.mem_singleton.mp hm ▸ Heap.lt_size e) (Nat.lt_irrefl _)) (Heap.get?_push_of_some _ e)
    obtain ⟨k, x, hkx, hv⟩ := hP
    obtain ⟨t, rfl⟩ := PySem.Value.isInt_shape hv
    exact h k t h' tk (Fh.grownK hkeep) (N.grown hkeep) (List.mem_map.mpr ⟨_, List.mem_of_getElem? hkx, rfl⟩)
end
end
end

section
open PySem PySem.W PyProof.Rows PySem.Calls LCg LCt
set_option maxRecDepth 100000
set_option maxHeartbeats 1600000
set_option linter.unusedVariables false
section

/-- what stands still while the law runs -/
structure Fx where
  (ap asc aw asp dsp ast act dct aou aen : Addr)
  (T Tc : Nat → Tok)
  (nm ak lt rc ls lm fu un wn hn ec gn : Value)
  (c : Nat)
  (tg : Tok)
/-- what turns -/
structure Ab where
  (al ps qs : List Pk)
  (ends : List Int)
  (N : Nat)
  (la : Value)
  (W f cr now dr : Int)
/-- a packet's own objects, the law's pair with them -/
def PkIn (w : World) (R : List (Addr × Obj)) (p : Pk) : Prop :=
  (p.a, instObj 204 p.d) ∈ R ∧ (∃ k0 k1 k2 k3 k4 k5 tn tt tz fr, (p.d, pkD w k0 k1 k2 k3 k4 k5 (.int p.n tn) (.int p.t tt) (.int p.z tz) fr (.bool true) (.bool true)) ∈ R) ∧ ∃ tt tz, (p.u, tupO [.int p.t tt, .int p.z tz]) ∈ R
theorem PkIn.mono {w : World} {R R' : List (Addr × Obj)} {p : Pk} (h : PkIn w R p) (k : ∀ x ∈ R, x ∈ R') : PkIn w R' p :=
  let ⟨h1, ⟨k0, k1, k2, k3, k4, k5, tn, tt, tz, fr, h2⟩, t1, t2, h3⟩ := h; ⟨k _ h1, ⟨k0, k1, k2, k3, k4, k5, tn, tt, tz, fr, k _ h2⟩, t1, t2, k _ h3⟩
theorem PkIn.at {w : World} {R : List (Addr × Obj)} {p : Pk} {g : Heap} (h : PkIn w R p) (k : ∀ x ∈ R, g.get? x.1 = some x.2) : PkAt w g p :=
  let ⟨h1, ⟨k0, k1, k2, k3, k4, k5, tn, tt, tz, fr, h2⟩, _⟩ := h; ⟨k _ h1, k0, k1, k2, k3, k4, k5, tn, tt, tz, fr, k _ h2⟩
/-- no object of R is one of the law's own -/
def Off (X : Fx) (R : List (Addr × Obj)) : Prop :=
  (∀ p ∈ R, p.1 ≠ X.ap) ∧ (∀ p ∈ R, p.1 ≠ X.aw) ∧ (∀ p ∈ R, p.1 ≠ X.asp) ∧ (∀ p ∈ R, p.1 ≠ X.dsp) ∧ (∀ p ∈ R, p.1 ≠ X.ast) ∧ (∀ p ∈ R, p.1 ≠ X.act) ∧ (∀ p ∈ R, p.1 ≠ X.dct) ∧ (∀ p ∈ R, p.1 ≠ X.aou) ∧ (∀ p ∈ R, p.1 ≠ X.aen)
abbrev wdK (asp act : Addr) (now : Int) (tn : Tok) (aou aen : Addr) : List (Str × Value) :=
  [(Str.ofString "space", .ref asp), (Str.ofString "control", .ref act), (Str.ofString "now", .int now tn), (Str.ofString "out", .ref aou), (Str.ofString "ends", .ref aen)]
abbrev mains (w : World) (X : Fx) (a : Ab) (p0 : Int) (t0 t2 tN : Tok) (le : Value) (tW tf tc : Tok) (th rcv : Value) (ow ost oou : Obj) (ens : Array Value) (ke : Nat) : List (Addr × Obj) :=
  [(X.ap, W.listOf #[.int p0 t0, .ref X.asc, .int a.dr t2] X.c), (X.aw, ow), (X.asp, instObj 333 X.dsp), (X.dsp, spD w X.T X.nm (.int (a.N : Int) tN) (.ref X.ast) a.la X.ak le X.lt X.rc X.ls X.lm X.fu X.un X.wn X.hn X.ec X.gn), (X.ast, ost),
    (X.act, instObj 148 X.dct), (X.dct, ctD w X.Tc (.int 100 X.tg) (.int a.W tW) th rcv (.int a.f tf) (.int a.cr tc)), (X.aou, oou), (X.aen, W.listOf ens ke)]
/-- the world in the ledger -/
def Lay (w : World) (X : Fx) (a : Ab) (nw : List (Addr × Obj)) : Prop :=
  ∃ p0 t0 t2 tN le tW tf tc th rcv tn ow ost oou ens ke R, (0 ≤ p0 ∧ p0 < 1009) ∧ OptInt th ∧ OptInt rcv ∧ OptInt a.la ∧
    ow.IsDictOf (strKind PySem.Challenge.rw_pb0526_01.row.prog w) (wdK X.asp X.act a.now tn X.aou X.aen) ∧ ost.IsDictOf (intKind PySem.Challenge.rw_pb0526_01.row.prog w) (sentOf a.ps) ∧ oou.IsDictOf (intKind PySem.Challenge.rw_pb0526_01.row.prog w) (outOf a.qs) ∧
    IntsAre ens.toList a.ends ∧ (∀ p ∈ a.al, PkIn w R p) ∧ Off X R ∧ nw = mains w X a p0 t0 t2 tN le tW tf tc th rcv ow ost oou ens ke ++ R
/-- the law's own objects are nine -/
def Nine (X : Fx) : Prop := [X.ap, X.aw, X.asp, X.dsp, X.ast, X.act, X.dct, X.aou, X.aen].Pairwise (· ≠ ·) ∧ (X.aw == sysModules) = false ∧ (X.ast == sysModules) = false ∧ (X.aou == sysModules) = false
/-- what holds between the law's steps -/
structure Ok (a : Ab) : Prop where
  al : a.al = a.ps
  qs : a.qs = a.ps
  f : a.f = (a.ps.map (·.z)).sum
  perm : (a.ends ++ a.ps.map (·.n)).Perm ((List.range a.N).map Int.ofNat)
  W : 200 ≤ a.W
  Wu : a.W + (a.ps.map (·.z)).sum ≤ 1000 + 100 * (a.N : Int)
  cr : 0 ≤ a.cr
  cu : a.cr < a.W
  z : ∀ p ∈ a.ps, 2 ≤ p.z ∧ p.z ≤ 100
  dr : 0 ≤ a.dr
  N : a.N ≤ 61
theorem Ok.nd {a : Ab} (h : Ok a) : (a.ends ++ a.ps.map (·.n)).Nodup := by
  refine h.perm.nodup_iff.mpr ?_
  unfold List.Nodup
  rw [List.pairwise_map]
  exact List.Pairwise.imp (fun h e => h (Int.ofNat.inj e)) List.nodup_range
theorem Ok.len {a : Ab} (h : Ok a) : a.ends.length + a.ps.length = a.N := by
  have := h.perm.length_eq
  simpa using this
theorem Ok.lt {a : Ab} (h : Ok a) : ∀ p ∈ a.ps, 0 ≤ p.n ∧ p.n < a.N := by
  intro p hp
  have h1 : p.n ∈ a.ends ++ a.ps.map (·.n) := List.mem_append_right _ (List.mem_map_of_mem hp)
  obtain ⟨k, hk, e⟩ := List.mem_map.mp (h.perm.mem_iff.mp h1)
  rw [List.mem_range] at hk
  rw [← e]
  exact ⟨Int.natCast_nonneg _, by show ((k : Nat) : Int) < _; omega⟩
theorem swapL {h₀ h : Heap} {L : Addr} {l R rest : List (Addr × Obj)} (N : News h₀ L h ((l ++ R) ++ rest)) : News h₀ L h (l ++ (rest ++ R)) := fun p hp => N p (by
  simp only [List.mem_append] at hp ⊢
  rcases hp with h | h | h
  · exact .inl (.inl h)
  · exact .inr h
  · exact .inl (.inr h))
theorem apart_cons_left {x : Addr × Obj} {rest R : List (Addr × Obj)} : Apart (x :: rest) R ↔ (∀ p ∈ R, p.1 ≠ x.1) ∧ Apart rest R :=
  ⟨fun h => ⟨fun p hp => (h p hp x (.head _)).symm, fun q hq p hp => h q hq p (.tail _ hp)⟩, fun h q hq p hp => by
    cases hp with
    | head => exact (h.1 q hq).symm
    | tail _ hp => exact h.2 q hq p hp⟩
theorem apart_nil_left {R : List (Addr × Obj)} : Apart [] R ↔ True := ⟨fun _ => trivial, fun _ => Apart.none⟩
theorem apart_append {rest l R : List (Addr × Obj)} : Apart rest (l ++ R) ↔ Apart rest l ∧ Apart rest R :=
  ⟨fun h => ⟨fun q hq => h q (List.mem_append_left _ hq), fun q hq => h q (List.mem_append_right _ hq)⟩, fun h q hq => (List.mem_append.mp hq).elim (h.1 q) (h.2 q)⟩
theorem isList_stays {g g' : Heap} {a : Addr} {xs : Array Value} (k : g.StaysIn g') (h : g.IsList a xs) : g'.IsList a xs := h.at fun o e => k _ _ e
/-- the world laid within a ledger -/
def LayIn (w : World) (X : Fx) (a : Ab) (all R : List (Addr × Obj)) : Prop :=
  ∃ nw, Lay w X a nw ∧ (∀ p ∈ nw, p ∈ all) ∧ ∀ I : Addr, (X.ap ≠ I ∧ X.aw ≠ I ∧ X.asp ≠ I ∧ X.dsp ≠ I ∧ X.ast ≠ I ∧ X.act ≠ I ∧ X.dct ≠ I ∧ X.aou ≠ I ∧ X.aen ≠ I) → (∀ p ∈ R, p.1 ≠ I) → ∀ p ∈ nw, p.1 ≠ I
theorem lay_in {w : World} {X : Fx} {a : Ab} {g h' : Heap} {L : Addr} {all R : List (Addr × Obj)} {p0 dr nn W f cr now : Int} {t0 t2 tN tW tf tc tn : Tok} {le th rcv la : Value} {ow ost oou : Obj} {ens : Array Value} {ke : Nat}
    (_N : News g L h' all) (k1 : (X.ap, PySem.W.listOf #[.int p0 t0, .ref X.asc, .int dr t2] X.c) ∈ all) (k2 : (X.aw, ow) ∈ all) (k3 : (X.asp, instObj 333 X.dsp) ∈ all)
    (k4 : (X.dsp, spD w X.T X.nm (.int nn tN) (.ref X.ast) la X.ak le X.lt X.rc X.ls X.lm X.fu X.un X.wn X.hn X.ec X.gn) ∈ all) (k5 : (X.ast, ost) ∈ all) (k6 : (X.act, instObj 148 X.dct) ∈ all)
    (k7 : (X.dct, ctD w X.Tc (.int 100 X.tg) (.int W tW) th rcv (.int f tf) (.int cr tc)) ∈ all) (k8 : (X.aou, oou) ∈ all) (k9 : (X.aen, PySem.W.listOf ens ke) ∈ all) (kR : ∀ p ∈ R, p ∈ all)
    (q0 : 0 ≤ p0 ∧ p0 < 1009) (hth : OptInt th) (hrc : OptInt rcv) (hla : OptInt la) (hW : ow.IsDictOf (strKind PySem.Challenge.rw_pb0526_01.row.prog w) (wdK X.asp X.act now tn X.aou X.aen)) (hS : ost.IsDictOf (intKind PySem.Challenge.rw_pb0526_01.row.prog w) (sentOf a.ps))
    (hU : oou.IsDictOf (intKind PySem.Challenge.rw_pb0526_01.row.prog w) (outOf a.qs)) (hE : IntsAre ens.toList a.ends) (hP : ∀ p ∈ a.al, PkIn w R p) (hoff : Off X R)
    (e1 : dr = a.dr) (e2 : nn = (a.N : Int)) (e3 : la = a.la) (e4 : W = a.W) (e5 : f = a.f) (e6 : cr = a.cr) (e7 : now = a.now) : LayIn w X a all R := by
  subst e1 e2 e3 e4 e5 e6 e7
  refine ⟨mains w X a p0 t0 t2 tN le tW tf tc th rcv ow ost oou ens ke ++ R, ⟨_, _, _, _, _, _, _, _, _, _, _, _, _, _, _, _, _, q0, hth, hrc, hla, hW, hS, hU, hE, hP, hoff, rfl⟩, ?_, ?_⟩
  · intro p hp
    rcases List.mem_append.mp hp with hp | hp
    · exact sub_cons k1 (sub_cons k2 (sub_cons k3 (sub_cons k4 (sub_cons k5 (sub_cons k6 (sub_cons k7 (sub_cons k8 (sub_cons k9 sub_nil)))))))) p hp
    · exact kR p hp
  · rintro I ⟨n1, n2, n3, n4, n5, n6, n7, n8, n9⟩ nR p hp
    rcases List.mem_append.mp hp with hp | hp
    · have : ∀ q ∈ mains w X a p0 t0 t2 tN le tW tf tc th rcv ow ost oou ens ke, q.1 ≠ I := by
        simp only [mains, all_cons, all_nil]
        exact ⟨n1, n2, n3, n4, n5, n6, n7, n8, n9, trivial⟩
      exact this p hp
    · exact nR p hp
theorem for_lay {w : World} {X : Fx} {a : Ab} {P : Ab → Prop} {xs : List Str} {m m' : Str → Option Value} {g h' : Heap} {L I : Addr} {oI : Obj} {s₁ : Shared} {tk : Nat} {all R : List (Addr × Obj)}
    (F : Fr g L h' m') (N : News g L h' all) (hI : (I, oI) ∈ all) (hl : LayIn w X a all R) (n : X.ap ≠ I ∧ X.aw ≠ I ∧ X.asp ≠ I ∧ X.dsp ≠ I ∧ X.ast ≠ I ∧ X.act ≠ I ∧ X.dct ≠ I ∧ X.aou ≠ I ∧ X.aen ≠ I) (nR : ∀ p ∈ R, p.1 ≠ I)
    (hP : P a) (hm : ∀ y, y ∉ xs → m' y = m y) : ForEnd g L s₁ I oI [] (fun m' nw => (∃ a, Lay w X a nw ∧ P a) ∧ ∀ y, y ∉ xs → m' y = m y) { s₁ with heap := h', toks := tk } :=
  let ⟨nw, h1, h2, h3⟩ := hl; ForEnd.of (nw := nw) F N ⟨⟨a, h1, hP⟩, hm⟩ hI h2 (h3 I n nR) sub_nil
theorem leaf_lay {w : World} {X : Fx} {a : Ab} {Post : Value → List (Addr × Obj) → Prop} {m' : Str → Option Value} {g h' : Heap} {L : Addr} {s₁ : Shared} {tk : Nat} {all R : List (Addr × Obj)} {v : Value}
    (F : Fr g L h' m') (N : News g L h' all) (hl : LayIn w X a all R) (hP : ∀ nw, Lay w X a nw → Post v nw) : LeafQ g L s₁ Post v { s₁ with heap := h', toks := tk } :=
  let ⟨nw, h1, h2, _⟩ := hl; LeafQ.of (post := nw) F N h2 (hP nw h1)
theorem off_cons {X : Fx} {q : Addr} {o : Obj} {R : List (Addr × Obj)} (h : q ≠ X.ap ∧ q ≠ X.aw ∧ q ≠ X.asp ∧ q ≠ X.dsp ∧ q ≠ X.ast ∧ q ≠ X.act ∧ q ≠ X.dct ∧ q ≠ X.aou ∧ q ≠ X.aen) (hR : Off X R) : Off X ((q, o) :: R) :=
  let ⟨n1, n2, n3, n4, n5, n6, n7, n8, n9⟩ := h; let ⟨r1, r2, r3, r4, r5, r6, r7, r8, r9⟩ := hR
  ⟨List.forall_mem_cons.mpr ⟨n1, r1⟩, List.forall_mem_cons.mpr ⟨n2, r2⟩, List.forall_mem_cons.mpr ⟨n3, r3⟩, List.forall_mem_cons.mpr ⟨n4, r4⟩, List.forall_mem_cons.mpr ⟨n5, r5⟩, List.forall_mem_cons.mpr ⟨n6, r6⟩, List.forall_mem_cons.mpr ⟨n7, r7⟩, List.forall_mem_cons.mpr ⟨n8, r8⟩, List.forall_mem_cons.mpr ⟨n9, r9⟩⟩
/-- a packet sent -/
theorem Ok.send {a : Ab} (h : Ok a) {p : Pk} (hn : p.n = (a.N : Int)) (hz : 2 ≤ p.z ∧ p.z ≤ 100) (hN : a.N < 61) {dr : Int} (hdr : 0 ≤ dr) :
    Ok { a with al := a.ps ++ [p], ps := a.ps ++ [p], qs := a.ps ++ [p], N := a.N + 1, f := a.f + p.z, dr := dr } := by
  have hsum : ((a.ps ++ [p]).map (·.z)).sum = (a.ps.map (·.z)).sum + p.z := by simp
  refine ⟨rfl, rfl, ?_, ?_, h.W, ?_, h.cr, h.cu, ?_, hdr, hN⟩
  · show a.f + p.z = _
    rw [hsum, h.f]
  · show (a.ends ++ (a.ps ++ [p]).map (·.n)).Perm ((List.range (a.N + 1)).map Int.ofNat)
    rw [List.range_succ, List.map_append, List.map_append, ← List.append_assoc]
    refine List.Perm.append h.perm ?_
    show List.Perm [p.n] [Int.ofNat a.N]
    rw [hn]
    exact List.Perm.refl _
  · show a.W + ((a.ps ++ [p]).map (·.z)).sum ≤ 1000 + 100 * ((a.N + 1 : Nat) : Int)
    have := h.Wu
    rw [hsum]
    omega
  · intro q hq
    rcases List.mem_append.mp hq with hq | hq
    · exact h.z q hq
    · rw [List.mem_singleton.mp hq]; exact hz
theorem stored_sent {a : Ab} (h : Ok a) {p : Pk} (hn : p.n = (a.N : Int)) : stored (sentOf a.ps) p.n (.ref p.a) = sentOf (a.ps ++ [p]) := by
  rw [stored_new (by
    rw [keys_sent]
    intro q
    obtain ⟨x, hx, e⟩ := List.mem_map.mp q
    have := (h.lt x hx).2
    omega)]
  simp [sentOf]
theorem stored_out {a : Ab} (h : Ok a) {p : Pk} (hn : p.n = (a.N : Int)) : stored (outOf a.ps) p.n (.ref p.u) = outOf (a.ps ++ [p]) := by
  rw [stored_new (by
    rw [keys_out]
    intro q
    obtain ⟨x, hx, e⟩ := List.mem_map.mp q
    have := (h.lt x hx).2
    omega)]
  simp [outOf]
theorem Lay.elim {w : World} {X : Fx} {a : Ab} {nw : List (Addr × Obj)} {P : Prop} (h : Lay w X a nw)
    (k : ∀ p0 t0 t2 tN le tW tf tc th rcv tn ow ost oou ens ke R, 0 ≤ p0 → p0 < 1009 → OptInt th → OptInt rcv → OptInt a.la →
      ow.IsDictOf (strKind PySem.Challenge.rw_pb0526_01.row.prog w) (wdK X.asp X.act a.now tn X.aou X.aen) → ost.IsDictOf (intKind PySem.Challenge.rw_pb0526_01.row.prog w) (sentOf a.ps) → oou.IsDictOf (intKind PySem.Challenge.rw_pb0526_01.row.prog w) (outOf a.qs) →
      IntsAre ens.toList a.ends → (∀ p ∈ a.al, PkIn w R p) → (∀ p ∈ R, p.1 ≠ X.ap) → (∀ p ∈ R, p.1 ≠ X.aw) → (∀ p ∈ R, p.1 ≠ X.asp) → (∀ p ∈ R, p.1 ≠ X.dsp) → (∀ p ∈ R, p.1 ≠ X.ast) → (∀ p ∈ R, p.1 ≠ X.act) → (∀ p ∈ R, p.1 ≠ X.dct) → (∀ p ∈ R, p.1 ≠ X.aou) → (∀ p ∈ R, p.1 ≠ X.aen) →
      nw = mains w (X) a p0 t0 t2 tN le tW tf tc th rcv ow ost oou ens ke ++ R → P) : P := by
  refine gen_P fun G kG => ?_
  obtain ⟨p0, t0, t2, tN, le, tW, tf, tc, th, rcv, tn, ow, ost, oou, ens, ke, R, ⟨hp0, hp0'⟩, hth, hrc, hla, hW, hS, hU, hE, hP, ⟨r1, r2, r3, r4, r5, r6, r7, r8, r9⟩, e⟩ := h
  exact kG (k p0 t0 t2 tN le tW tf tc th rcv tn ow ost oou ens ke R hp0 hp0' hth hrc hla hW hS hU hE hP r1 r2 r3 r4 r5 r6 r7 r8 r9 e)
theorem Lay.elim' {w : World} {ap asc aw asp dsp ast act dct aou aen : Addr} {T Tc : Nat → Tok} {nm ak lt rc ls lm fu un wn hn ec gn : Value} {c : Nat} {tg : Tok} {a : Ab} {nw : List (Addr × Obj)} {P : Prop} (h : Lay w ⟨ap, asc, aw, asp, dsp, ast, act, dct, aou, aen, T, Tc, nm, ak, lt, rc, ls, lm, fu, un, wn, hn, ec, gn, c, tg⟩ a nw)
    (k : ∀ p0 t0 t2 tN le tW tf tc th rcv tn ow ost oou ens ke R, 0 ≤ p0 → p0 < 1009 → OptInt th → OptInt rcv → OptInt a.la →
      ow.IsDictOf (strKind PySem.Challenge.rw_pb0526_01.row.prog w) (wdK asp act a.now tn aou aen) → ost.IsDictOf (intKind PySem.Challenge.rw_pb0526_01.row.prog w) (sentOf a.ps) → oou.IsDictOf (intKind PySem.Challenge.rw_pb0526_01.row.prog w) (outOf a.qs) →
      IntsAre ens.toList a.ends → (∀ p ∈ a.al, PkIn w R p) → (∀ p ∈ R, p.1 ≠ ap) → (∀ p ∈ R, p.1 ≠ aw) → (∀ p ∈ R, p.1 ≠ asp) → (∀ p ∈ R, p.1 ≠ dsp) → (∀ p ∈ R, p.1 ≠ ast) → (∀ p ∈ R, p.1 ≠ act) → (∀ p ∈ R, p.1 ≠ dct) → (∀ p ∈ R, p.1 ≠ aou) → (∀ p ∈ R, p.1 ≠ aen) →
      nw = mains w (⟨ap, asc, aw, asp, dsp, ast, act, dct, aou, aen, T, Tc, nm, ak, lt, rc, ls, lm, fu, un, wn, hn, ec, gn, c, tg⟩ : Fx) a p0 t0 t2 tN le tW tf tc th rcv ow ost oou ens ke ++ R → P) : P := Lay.elim h k
theorem Nine.elim {X : Fx} {P : Prop} (h : Nine X) (k : X.ap ≠ X.aw → X.ap ≠ X.asp → X.ap ≠ X.dsp → X.ap ≠ X.ast → X.ap ≠ X.act → X.ap ≠ X.dct → X.ap ≠ X.aou → X.ap ≠ X.aen → X.aw ≠ X.asp → X.aw ≠ X.dsp → X.aw ≠ X.ast → X.aw ≠ X.act → X.aw ≠ X.dct → X.aw ≠ X.aou → X.aw ≠ X.aen → X.asp ≠ X.dsp → X.asp ≠ X.ast → X.asp ≠ X.act → X.asp ≠ X.dct → X.asp ≠ X.aou → X.asp ≠ X.aen → X.dsp ≠ X.ast → X.dsp ≠ X.act → X.dsp ≠ X.dct → X.dsp ≠ X.aou → X.dsp ≠ X.aen → X.ast ≠ X.act → X.ast ≠ X.dct → X.ast ≠ X.aou → X.ast ≠ X.aen → X.act ≠ X.dct → X.act ≠ X.aou → X.act ≠ X.aen → X.dct ≠ X.aou → X.dct ≠ X.aen → X.aou ≠ X.aen → (X.aw == sysModules) = false → (X.ast == sysModules) = false → (X.aou == sysModules) = false → P) : P := by
  refine gen_P fun G kG => ?_
  obtain ⟨hnine, lw, ls', lo'⟩ := h
  simp only [List.pairwise_cons, List.forall_mem_cons, List.not_mem_nil, List.Pairwise.nil, false_implies, implies_true, and_true] at hnine
  obtain ⟨⟨h01, h02, h03, h04, h05, h06, h07, h08⟩, ⟨h12, h13, h14, h15, h16, h17, h18⟩, ⟨h23, h24, h25, h26, h27, h28⟩, ⟨h34, h35, h36, h37, h38⟩, ⟨h45, h46, h47, h48⟩, ⟨h56, h57, h58⟩, ⟨h67, h68⟩, h78⟩ := hnine
  exact kG (k h01 h02 h03 h04 h05 h06 h07 h08 h12 h13 h14 h15 h16 h17 h18 h23 h24 h25 h26 h27 h28 h34 h35 h36 h37 h38 h45 h46 h47 h48 h56 h57 h58 h67 h68 h78 lw ls' lo')
theorem Nine.elim' {ap asc aw asp dsp ast act dct aou aen : Addr} {T Tc : Nat → Tok} {nm ak lt rc ls lm fu un wn hn ec gn : Value} {c : Nat} {tg : Tok} {P : Prop} (h : Nine ⟨ap, asc, aw, asp, dsp, ast, act, dct, aou, aen, T, Tc, nm, ak, lt, rc, ls, lm, fu, un, wn, hn, ec, gn, c, tg⟩) (k : ap ≠ aw → ap ≠ asp → ap ≠ dsp → ap ≠ ast → ap ≠ act → ap ≠ dct → ap ≠ aou → ap ≠ aen → aw ≠ asp → aw ≠ dsp → aw ≠ ast → aw ≠ act → aw ≠ dct → aw ≠ aou → aw ≠ aen → asp ≠ dsp → asp ≠ ast → asp ≠ act → asp ≠ dct → asp ≠ aou → asp ≠ aen → dsp ≠ ast → dsp ≠ act → dsp ≠ dct → dsp ≠ aou → dsp ≠ aen → ast ≠ act → ast ≠ dct → ast ≠ aou → ast ≠ aen → act ≠ dct → act ≠ aou → act ≠ aen → dct ≠ aou → dct ≠ aen → aou ≠ aen → (aw == sysModules) = false → (ast == sysModules) = false → (aou == sysModules) = false → P) : P := Nine.elim h k
theorem off10 {x0 x1 x2 x3 x4 x5 x6 x7 x8 : Addr × Obj} {R : List (Addr × Obj)} {I : Addr} {P : Prop} (h : ∀ p ∈ x0 :: x1 :: x2 :: x3 :: x4 :: x5 :: x6 :: x7 :: x8 :: R, p.1 ≠ I)
    (k : x0.1 ≠ I → x1.1 ≠ I → x2.1 ≠ I → x3.1 ≠ I → x4.1 ≠ I → x5.1 ≠ I → x6.1 ≠ I → x7.1 ≠ I → x8.1 ≠ I → (∀ p ∈ R, p.1 ≠ I) → P) : P :=
  k (h _ (.head _)) (h _ (.tail _ (.head _))) (h _ (.tail _ (.tail _ (.head _)))) (h _ (.tail _ (.tail _ (.tail _ (.head _))))) (h _ (.tail _ (.tail _ (.tail _ (.tail _ (.head _)))))) (h _ (.tail _ (.tail _ (.tail _ (.tail _ (.tail _ (.head _))))))) (h _ (.tail _ (.tail _ (.tail _ (.tail _ (.tail _ (.tail _ (.head _)))))))) (h _ (.tail _ (.tail _ (.tail _ (.tail _ (.tail _ (.tail _ (.tail _ (.head _))))))))) (h _ (.tail _ (.tail _ (.tail _ (.tail _ (.tail _ (.tail _ (.tail _ (.tail _ (.head _)))))))))) fun p hp => h p (.tail _ (.tail _ (.tail _ (.tail _ (.tail _ (.tail _ (.tail _ (.tail _ (.tail _ hp)))))))))
end
end

section
open PySem PySem.W PyProof.Rows PySem.Calls LCg LCt
set_option maxRecDepth 100000
set_option maxHeartbeats 8000000
set_option linter.unusedVariables false
section
theorem fresh_Sn : True := by
  w_top off
  exact trivial



set_option hygiene false
set_option hygiene true
-- the tactics of the kit that this text gives a meaning of its own: ktr_rel the entries picked, ktr_unf what stands apart

theorem draw_ret {h₀ : Heap} {L ap asc : Addr} {c : Nat} {p2 many : Int} {m : Str → Option Value} {rest : List (Addr × Obj)} {Q : Value → Shared → Prop} {s : Shared}
    (k : ∀ r tr p0' t0' t2' h' tk', 0 ≤ r → r < many → 0 ≤ p0' → p0' < 1009 → Fr h₀ L h' m → News h₀ L h' ((ap, PySem.W.listOf #[.int p0' t0', .ref asc, .int (p2 + 1) t2'] c) :: rest) → Q (.int r tr) { s with heap := h', toks := tk' }) :
    ∀ v post h' tk', Fr h₀ L h' m → News h₀ L h' (post ++ rest) → Apart rest post → DrawPost ap asc c p2 many v post → Q v { s with heap := h', toks := tk' } := by
  intro v post h' tk' F N A P
  obtain ⟨r, tr, p0', t0', t2', rfl, a1, a2, a3, a4, rfl⟩ := P
  exact k r tr p0' t0' t2' h' tk' a1 a2 a3 a4 F N
section
variable {prog : Program} {w : World} {A : Around} {s : Shared} {h₀ : Heap} {L : Addr} {news : List (Addr × Obj)} {E : Value → Shared → Prop}
theorem menu3 {value slice : PySem.Expr} {a : Addr} {x y z r : Int} {t1 t2 t3 u : Tok} {kk : Nat} {Q : Value → Shared → Prop} (N : News h₀ L s.heap news) (hm : (a, W.listOf #[.int x t1, .int y t2, .int z t3] kk) ∈ news) (h0 : 0 ≤ r) (h1 : r < 3)
    (h : ∀ v t, v = x ∨ v = y ∨ v = z → Q (.int v t) s)
    (hs : subscripted slice false (.ref a) (.int r u) = operate [.ref a, .int r u] (getItem (.ref a) (.int r u)) := by with_unfolding_all rfl) (hg : ∀ r, letTemporaryGo value (.ref a) r = pure () := by intro _; with_unfolding_all rfl) :
    wpAny (model prog w) A (subscriptTail value slice (.ref a) (.int r u)) Q E s := by
  have hr : r = 0 ∨ r = 1 ∨ r = 2 := by omega
  rcases hr with rfl | rfl | rfl
  · exact kim_list (l := [.int x t1, .int y t2, .int z t3]) N hm rfl rfl (by decide) (by decide) rfl (h _ _ (.inl rfl)) hs hg
  · exact kim_list (l := [.int x t1, .int y t2, .int z t3]) N hm rfl rfl (by decide) (by decide) rfl (h _ _ (.inr (.inl rfl))) hs hg
  · exact kim_list (l := [.int x t1, .int y t2, .int z t3]) N hm rfl rfl (by decide) (by decide) rfl (h _ _ (.inr (.inr rfl))) hs hg
end
theorem menu_z {r : Int} (h0 : 0 ≤ r) (h1 : r < 3) : 2 ≤ ([40, 100, 80] : List Int).getD r.toNat 0 ∧ ([40, 100, 80] : List Int).getD r.toNat 0 ≤ 100 := by
  have hr : r = 0 ∨ r = 1 ∨ r = 2 := by omega
  rcases hr with rfl | rfl | rfl <;> decide
theorem sends_lay {w : World} {X : Fx} {a : Ab} {g h' : Heap} {L : Addr} {all R : List (Addr × Obj)} {p0 dr nn f z : Int} {t0 t2 tN tW tf tc tn : Tok} {le th rcv : Value} {ow ost oou : Obj} {ens : Array Value} {ke : Nat} {pa pd u : Addr} {k0 k1 k2 k3 k4 k5 s1 s2 s3 v1 v2 : Tok} {fr : Value}
    (N : News g L h' all) (hO : Ok a) (m1 : (X.ap, PySem.W.listOf #[.int p0 t0, .ref X.asc, .int dr t2] X.c) ∈ all) (m2 : (X.aw, ow) ∈ all) (m3 : (X.asp, instObj 333 X.dsp) ∈ all)
    (m4 : (X.dsp, spD w X.T X.nm (.int nn tN) (.ref X.ast) a.la X.ak le X.lt X.rc X.ls X.lm X.fu X.un X.wn X.hn X.ec X.gn) ∈ all) (m5 : (X.ast, ost) ∈ all) (m6 : (X.act, instObj 148 X.dct) ∈ all)
    (m7 : (X.dct, ctD w X.Tc (.int 100 X.tg) (.int a.W tW) th rcv (.int f tf) (.int a.cr tc)) ∈ all) (m8 : (X.aou, oou) ∈ all) (m9 : (X.aen, PySem.W.listOf ens ke) ∈ all) (mR : ∀ p ∈ R, p ∈ all)
    (ma : (pa, instObj 204 pd) ∈ all) (md : (pd, pkD w k0 k1 k2 k3 k4 k5 (.int (a.N : Int) s1) (.int a.now s2) (.int z s3) fr (.bool true) (.bool true)) ∈ all) (mu : (u, tupO [.int a.now v1, .int z v2]) ∈ all)
    (q0 : 0 ≤ p0 ∧ p0 < 1009) (hth : OptInt th) (hrc : OptInt rcv) (hla : OptInt a.la) (hW : ow.IsDictOf (strKind PySem.Challenge.rw_pb0526_01.row.prog w) (wdK X.asp X.act a.now tn X.aou X.aen)) (hS : ost.IsDictOf (intKind PySem.Challenge.rw_pb0526_01.row.prog w) (stored (sentOf a.ps) (a.N : Int) (.ref pa)))
    (hU : oou.IsDictOf (intKind PySem.Challenge.rw_pb0526_01.row.prog w) (stored (outOf a.qs) (a.N : Int) (.ref u))) (hE : IntsAre ens.toList a.ends) (hP : ∀ p ∈ a.al, PkIn w R p) (hoff : Off X R)
    (o1 : pa ≠ X.ap ∧ pa ≠ X.aw ∧ pa ≠ X.asp ∧ pa ≠ X.dsp ∧ pa ≠ X.ast ∧ pa ≠ X.act ∧ pa ≠ X.dct ∧ pa ≠ X.aou ∧ pa ≠ X.aen) (o2 : pd ≠ X.ap ∧ pd ≠ X.aw ∧ pd ≠ X.asp ∧ pd ≠ X.dsp ∧ pd ≠ X.ast ∧ pd ≠ X.act ∧ pd ≠ X.dct ∧ pd ≠ X.aou ∧ pd ≠ X.aen)
    (o3 : u ≠ X.ap ∧ u ≠ X.aw ∧ u ≠ X.asp ∧ u ≠ X.dsp ∧ u ≠ X.ast ∧ u ≠ X.act ∧ u ≠ X.dct ∧ u ≠ X.aou ∧ u ≠ X.aen) (e2 : nn = (a.N : Int) + 1) (e5 : f = a.f + z) :
    LayIn w X { a with al := a.ps ++ [⟨(a.N : Int), a.now, z, pa, pd, u⟩], ps := a.ps ++ [⟨(a.N : Int), a.now, z, pa, pd, u⟩], qs := a.ps ++ [⟨(a.N : Int), a.now, z, pa, pd, u⟩], N := a.N + 1, f := a.f + z, dr := dr } all
      ((pa, instObj 204 pd) :: (pd, pkD w k0 k1 k2 k3 k4 k5 (.int (a.N : Int) s1) (.int a.now s2) (.int z s3) fr (.bool true) (.bool true)) :: (u, tupO [.int a.now v1, .int z v2]) :: R) := by
  refine lay_in N m1 m2 m3 m4 m5 m6 m7 m8 m9 (sub_cons ma (sub_cons md (sub_cons mu mR))) q0 hth hrc hla hW ?_ ?_ hE ?_ (off_cons o1 (off_cons o2 (off_cons o3 hoff))) rfl (by rw [e2]; rfl) rfl rfl e5 rfl rfl
  · rw [← stored_sent hO (p := ⟨(a.N : Int), a.now, z, pa, pd, u⟩) rfl]; exact hS
  · rw [hO.qs] at hU
    rw [← stored_out hO (p := ⟨(a.N : Int), a.now, z, pa, pd, u⟩) rfl]; exact hU
  · intro q hq
    rcases List.mem_append.mp hq with hq | hq
    · exact (hP q (by rw [hO.al]; exact hq)).mono fun x hx => .tail _ (.tail _ (.tail _ hx))
    · rw [List.mem_singleton.mp hq]
      exact ⟨.head _, ⟨_, _, _, _, _, _, _, _, _, _, .tail _ (.head _)⟩, _, _, .tail _ (.tail _ (.head _))⟩
set_option hygiene false
set_option hygiene true
set_option hygiene false
set_option hygiene true
set_option hygiene false
set_option hygiene true
set_option hygiene false
set_option hygiene true

theorem spec_law_sends (w : World) (X : Fx) (a : Ab) (nw : List (Addr × Obj)) (ys : List Value) (ns : List Int) (hi : IntsAre ys ns) (hlen : ns.length ≤ 24) (h9 : Nine X) (hL : Lay w X a nw) (hO : Ok a) (hd : a.dr + 4 < 2 ^ 40) (hN : a.N + 3 ≤ 61) :
    Spec w 351 90 1400 [.ref X.ap, .ref X.aw] nw (fun g => g.IsList X.asc ys.toArray) (fun v post => ∃ a', v = .bool true ∧ Lay w X a' post ∧ Ok a' ∧ a'.N ≤ a.N + 3 ∧ a'.dr ≤ a.dr + 4 ∧ a'.now = a.now) := by
  refine gen_P fun G9 kG9 => ?_
  rcases X with ⟨ap, asc, aw, asp, dsp, ast, act, dct, aou, aen, T, Tc, nm, ak, lt, rc, ls, lm, fu, un, wn, hn, ec, gn, c, tg⟩
  refine Lay.elim' hL fun p0 t0 t2 tN le tW tf tc th rcv tn ow ost oou ens ke R hp0 hp0' hth hrc hla hW hS hU hE hP r1 r2 r3 r4 r5 r6 r7 r8 r9 enw => ?_
  refine Nine.elim' h9 fun h01 h02 h03 h04 h05 h06 h07 h08 h12 h13 h14 h15 h16 h17 h18 h23 h24 h25 h26 h27 h28 h34 h35 h36 h37 h38 h45 h46 h47 h48 h56 h57 h58 h67 h68 h78 lw ls' lo' => ?_
  clear hL h9
  cases enw
  refine kG9 ?_
  clear kG9
  have hWs := hW
  dsimp only [mains, List.cons_append, List.nil_append]
  have hdr0 := hO.dr
  have hW0 := hO.W
  have hc0 := hO.cr
  have hc1 := hO.cu
  unfold Spec
  k_fill
  intro dp9z un9z gd9z cn9z cs9z a9z ccd9z cl9z outer9z A₀9z base9z h₀9z L9z m9z s9z Q9z E9z mean9z mg9z mb9z news9z rest9z hB9z hF9z hX9z hN9z hsub9z hrs9z hAp9z hRo9z hT9z hk9z hd9z hu9z hret9z
  first
  | (k_dflt (refine' fr_call hB9z hF9z hX9z hN9z hsub9z hrs9z hAp9z hT9z rfl rfl hk9z ?k6 ?k7 ?k8 ?k9 ?kB hret9z ?_ ?c2 ?c3 ?c4 ?c5; (case k6 => k_is); (case k7 => k_is); (case k8 => ktr_room); (case k9 => exact BindsTo.of_eq rfl); (case c5 => decide); (case kB => exact locs rfl); (case c2 => exact rfl); (case c3 => exact rfl); (case c4 => exact rfl))
     k_whole
     intro g9z' L9z' h9z' tk9z' st9z' hR9z' F9z' N9z' B9z' X9z' T9z'
     have hRo9z' := hRo9z g9z' st9z' hR9z'
     (try dsimp only at hRo9z')
     clear hB9z hF9z hX9z hN9z hsub9z hrs9z hAp9z hRo9z hT9z hret9z st9z' hR9z')
  | (k_dflt (refine' fr_callC hB9z hF9z hX9z hN9z hsub9z hrs9z hAp9z hT9z rfl rfl hk9z ?k6 ?k7 ?k8 ?k9 ?kB ?kD hret9z ?_ ?c2 ?c3 ?c4; (case k6 => k_is); (case k7 => k_is); (case k8 => ktr_room); (case k9 => exact BindsTo.of_eq rfl); (case kB => exact rfl); (case kD => decide +kernel); (case c2 => exact rfl); (case c3 => exact rfl); (case c4 => exact rfl))
     k_whole
     intro g9z' L9z' h9z' tk9z' cells9z' st9z' hR9z' F9z' N9z' Y9z' B9z' X9z' T9z' l19z
     have hRo9z' := hRo9z g9z' st9z' hR9z'
     (try dsimp only at hRo9z')
     clear hB9z hF9z hX9z hN9z hsub9z hrs9z hAp9z hRo9z hT9z hret9z st9z' hR9z'
     (try k_lt l19z)
     k_cells Y9z'
     (try dsimp only [List.cons_append, List.nil_append] at N9z'))
  (try dsimp only)
  (try k_fold)
  refine gen_Q fun Q0 hQ0 => ?_
  (repeat' (first | (k_unfold; (try dsimp only)) | (k_end; wrow_close) | (with_reducible first | (k_here; (show wpAny _ _ (call (Value.ref 264) _) _ _ _); k_dflt (refine' Spec.useG (spec_take_number _ _ _ _ _ _ _ _ _ _ _ _ _ _ _ _ _ _ _ _ _ ?th) ?zB ?zF ?zX ?zN ?zP ?zA ?zR ?zT ?zk ?zd ?zu ?_); top_raise; (case zP => ktr_rel); (case th => k_ne); top_raiseB; top_args; k_dflt (obtain ⟨t1', t2', e1', e2'⟩ := P'; top_argsB)) | (k_here; (show wpAny _ _ (call (Value.ref 103) _) _ _ _); k_dflt (refine' Spec.useG (spec_ctl_sent _ _ _ _ _ _ _ _ _ _ _ _ _ ?ch) ?zB ?zF ?zX ?zN ?zP ?zA ?zR ?zT ?zk ?zd ?zu ?_); top_raise; (case zP => ktr_rel); (case ch => k_ne); top_raiseB; top_args; k_dflt (obtain ⟨t1', e1', e2'⟩ := P'; top_argsB)) | (k_here; (show wpAny _ _ (call (Value.ref 82) _) _ _ _); k_dflt (refine' Spec.useG (spec_may_send _ _ _ _ _ _ _ _ _ _ _ _ _ _ ?mh) ?zB ?zF ?zX ?zN ?zP ?zA ?zR ?zT ?zk ?zd ?zu ?_); top_raise; (case zP => ktr_rel); (case mh => k_ne); top_raiseB; top_args; k_dflt (obtain ⟨e1', e2'⟩ := P'; top_argsB)) | (k_here; (show wpAny _ _ (call (Value.ref 271) _) _ _ _); k_dflt (refine' Spec.use (spec_sp_sent _ _ _ _ _ _ _ _ _ _ _ _ _ _ _ _ _ _ _ _ _ _ _ _ _ _ _ _ _ _ _ _ ?sd ?ss ?s1 ?s2 ?s3 ?s4 ?s5 ?s6 ?s7 ?s8 ?s9 ?s10) ?zB ?zF ?zX ?zN ?zP ?zA ?zR ?zT ?zk ?zd ?zu (sent_ret ?_)); top_raise; (case zP => ktr_rel); (case sd => assumption); (case ss => ((try simp only [List.length_map]); omega)); (case s1 | s2 | s3 | s4 | s5 | s6 | s7 | s8 | s9 | s10 => k_ne); top_raiseB; intro pa' pd' k0' k1' k2' k3' k4' k5' od' h' tk' hd' hl' hm' hA1 hA2 F' N'; top_strB) | (k_here; (show wpAny _ _ (call (Value.ref 344) _) _ _ _); k_dflt (refine' Spec.use (spec_draw _ _ _ _ _ _ _ _ _ _ _ _ ?dhi ?dhl ?dp0 ?dp1 ?dp2 ?dp3 ?dm0 ?dm1) ?zB ?zF ?zX ?zN ?zP ?zA ?zR ?zT ?zk ?zd ?zu (draw_ret ?_)); top_raise; (case zP => ktr_rel); (case zR => (intro g1 st1 _; exact isList_stays st1 (by assumption))); (case dhi | dhl => assumption); (case dp0 | dp1 | dp2 | dp3 | dm0 | dm1 => omega); (case zA => ktr_unf); top_raise0; intro r' tr' p0' t0' t2' h' tk' hr0' hr1' hp0' hp1' F' N'; (try dsimp only); (try k_fold)) | (k_here; (show wpAny _ _ (subscriptTail _ _ (Value.ref _) (Value.int _ _)) _ _ _); k_dflt (refine' menu3 (kk := 0) ?mN ?mp ?m0 ?m1 ?_ ?ms ?mg; (case mN => k_asm); (case mp => k_mem); (case m0 => omega); (case m1 => omega); (case ms => with_unfolding_all rfl); (case mg => (intro _; with_unfolding_all rfl))); intro z' tz' hz') | (k_here; (show wpAny _ _ (subscriptTail _ _ (Value.ref _) (Value.str _ _)) _ _ _); k_dflt (refine' kda_item (knd := PySem.strKind _ _) ?N ?p ?d (strKind_is _ _ _ _) ?l ?_; (case N => k_asm); (case p => k_mem); (case d => assumption); (case l => exact rfl)))) | walk1 | dsimp only | (leave1; try dsimp only) | fail "no step"))
  all_goals (try dsimp only)
  rename IsRange _ _ _ _ _ _ _ _ => hra
  refine for_range' (n := (1 + r' - 0 : Int).toNat) rfl (by k_asm) (by k_asm) hra ?hsm ?hn [Str.ofString "turn", Str.ofString "size", Str.ofString "fits", Str.ofString "number"] (by decide)
    (fun i m₁ nw => ∃ a', Lay w (⟨ap, asc, aw, asp, dsp, ast, act, dct, aou, aen, T, Tc, nm, ak, lt, rc, ls, lm, fu, un, wn, hn, ec, gn, c, tg⟩ : Fx) a' nw ∧ Ok a' ∧ a'.N ≤ a.N + i ∧ a'.dr ≤ a.dr + 1 + i ∧ a'.now = a.now) ?h0 ?step ?done
  case hsm => exact small_one (by decide) (by decide) (by omega) (by omega)
  case hn => exact rangeSize_nat _ _
  case h0 => exact ⟨{ a with dr := a.dr + 1 }, ⟨_, _, _, _, _, _, _, _, _, _, _, _, _, _, _, _, _, ⟨hp0', hp1'⟩, hth, hrc, hla, hW, hS, hU, hE, hP, ⟨r1, r2, r3, r4, r5, r6, r7, r8, r9⟩, rfl⟩, ⟨hO.al, hO.qs, hO.f, hO.perm, hO.W, hO.Wu, hO.cr, hO.cu, hO.z, (by show 0 ≤ a.dr + 1; omega), hO.N⟩, Nat.le_refl _, (by show a.dr + 1 ≤ _; omega), rfl⟩
  case step =>
    intro i t m₁ nw I oI h tk hin hJ hnI F N
    dsimp only [envOf] at F N
    refine gen_P fun G9 kG9 => ?_
    obtain ⟨a', hL, hO', hN', hdr', hnow'⟩ := hJ
    refine kG9 ?_
    clear kG9
    refine gen_Q fun Q1 hQ1 => ?_
    refine hL.elim fun p0 t0 t2 tN le tW tf tc th rcv tn ow ost oou ens ke R hp0 hp0' hth hrc hla hW hS hU hE hP r1 r2 r3 r4 r5 r6 r7 r8 r9 enw => ?_
    rw [enw] at N hnI
    clear enw
    dsimp only at r1 r2 r3 r4 r5 r6 r7 r8 r9 hW
    dsimp only [mains, List.cons_append, List.nil_append] at N hnI ⊢
    refine off10 hnI fun n1 n2 n3 n4 n5 n6 n7 n8 n9 n10 => ?_
    have hdr0 := hO'.dr
    have hlp : a'.ps.length ≤ 61 := by have := hO'.len; have := hO'.N; omega
    have hlq : a'.qs.length ≤ 61 := by rw [hO'.qs]; exact hlp
    have hi3 : i < 3 := by omega
    (repeat' (first | (k_unfold; (try dsimp only)) | (k_end; wrow_close) | (with_reducible first | (k_here; (show wpAny _ _ (call (Value.ref 264) _) _ _ _); k_dflt (refine' Spec.useG (spec_take_number _ _ _ _ _ _ _ _ _ _ _ _ _ _ _ _ _ _ _ _ _ ?th) ?zB ?zF ?zX ?zN ?zP ?zA ?zR ?zT ?zk ?zd ?zu ?_); top_raise; (case zP => ktr_rel); (case th => k_ne); top_raiseB; top_args; k_dflt (obtain ⟨t1', t2', e1', e2'⟩ := P'; top_argsB)) | (k_here; (show wpAny _ _ (call (Value.ref 103) _) _ _ _); k_dflt (refine' Spec.useG (spec_ctl_sent _ _ _ _ _ _ _ _ _ _ _ _ _ ?ch) ?zB ?zF ?zX ?zN ?zP ?zA ?zR ?zT ?zk ?zd ?zu ?_); top_raise; (case zP => ktr_rel); (case ch => k_ne); top_raiseB; top_args; k_dflt (obtain ⟨t1', e1', e2'⟩ := P'; top_argsB)) | (k_here; (show wpAny _ _ (call (Value.ref 82) _) _ _ _); k_dflt (refine' Spec.useG (spec_may_send _ _ _ _ _ _ _ _ _ _ _ _ _ _ ?mh) ?zB ?zF ?zX ?zN ?zP ?zA ?zR ?zT ?zk ?zd ?zu ?_); top_raise; (case zP => ktr_rel); (case mh => k_ne); top_raiseB; top_args; k_dflt (obtain ⟨e1', e2'⟩ := P'; top_argsB)) | (k_here; (show wpAny _ _ (call (Value.ref 271) _) _ _ _); k_dflt (refine' Spec.use (spec_sp_sent _ _ _ _ _ _ _ _ _ _ _ _ _ _ _ _ _ _ _ _ _ _ _ _ _ _ _ _ _ _ _ _ ?sd ?ss ?s1 ?s2 ?s3 ?s4 ?s5 ?s6 ?s7 ?s8 ?s9 ?s10) ?zB ?zF ?zX ?zN ?zP ?zA ?zR ?zT ?zk ?zd ?zu (sent_ret ?_)); top_raise; (case zP => ktr_rel); (case sd => assumption); (case ss => ((try simp only [List.length_map]); omega)); (case s1 | s2 | s3 | s4 | s5 | s6 | s7 | s8 | s9 | s10 => k_ne); top_raiseB; intro pa' pd' k0' k1' k2' k3' k4' k5' od' h' tk' hd' hl' hm' hA1 hA2 F' N'; top_strB) | (k_here; (show wpAny _ _ (call (Value.ref 344) _) _ _ _); k_dflt (refine' Spec.use (spec_draw _ _ _ _ _ _ _ _ _ _ _ _ ?dhi ?dhl ?dp0 ?dp1 ?dp2 ?dp3 ?dm0 ?dm1) ?zB ?zF ?zX ?zN ?zP ?zA ?zR ?zT ?zk ?zd ?zu (draw_ret ?_)); top_raise; (case zP => ktr_rel); (case zR => (intro g1 st1 _; exact isList_stays st1 (by assumption))); (case dhi | dhl => assumption); (case dp0 | dp1 | dp2 | dp3 | dm0 | dm1 => omega); (case zA => ktr_unf); top_raise0; intro r' tr' p0' t0' t2' h' tk' hr0' hr1' hp0' hp1' F' N'; (try dsimp only); (try k_fold)) | (k_here; (show wpAny _ _ (subscriptTail _ _ (Value.ref _) (Value.int _ _)) _ _ _); k_dflt (refine' menu3 (kk := 0) ?mN ?mp ?m0 ?m1 ?_ ?ms ?mg; (case mN => k_asm); (case mp => k_mem); (case m0 => omega); (case m1 => omega); (case ms => with_unfolding_all rfl); (case mg => (intro _; with_unfolding_all rfl))); intro z' tz' hz') | (k_here; (show wpAny _ _ (subscriptTail _ _ (Value.ref _) (Value.str _ _)) _ _ _); k_dflt (refine' kda_item (knd := PySem.strKind _ _) ?N ?p ?d (strKind_is _ _ _ _) ?l ?_; (case N => k_asm); (case p => k_mem); (case d => assumption); (case l => exact rfl)))) | walk1 | dsimp only | (leave1; try dsimp only) | fail "no step"))
    all_goals (try dsimp only)
    · rename (_ != _) = true => hx
      exact absurd hx (by simp)
    · have hz := menu_z (r := r') (by assumption) (by assumption)
      exact hQ1 _ _ (for_lay (X := (⟨ap, asc, aw, asp, dsp, ast, act, dct, aou, aen, T, Tc, nm, ak, lt, rc, ls, lm, fu, un, wn, hn, ec, gn, c, tg⟩ : Fx)) (by k_asm) (by k_asm) (by k_mem) (sends_lay (X := (⟨ap, asc, aw, asp, dsp, ast, act, dct, aou, aen, T, Tc, nm, ak, lt, rc, ls, lm, fu, un, wn, hn, ec, gn, c, tg⟩ : Fx)) (a := a') (R := R) (pa := pa') (pd := pd') (by k_asm) hO' (by dsimp only; k_mem) (by dsimp only; k_mem) (by dsimp only; k_mem) (by dsimp only; k_mem) (by dsimp only; k_mem) (by dsimp only; k_mem) (by dsimp only; k_mem) (by dsimp only; k_mem) (by dsimp only; k_mem) (by tb_rel)
          (by k_mem) (by k_mem) (by k_mem) ⟨by assumption, by assumption⟩ hth hrc hla hW (by assumption) (by assumption) hE hP ⟨r1, r2, r3, r4, r5, r6, r7, r8, r9⟩
          ⟨by k_ne, by k_ne, by k_ne, by k_ne, by k_ne, by k_ne, by k_ne, by k_ne, by k_ne⟩ ⟨by k_ne, by k_ne, by k_ne, by k_ne, by k_ne, by k_ne, by k_ne, by k_ne, by k_ne⟩ ⟨by k_ne, by k_ne, by k_ne, by k_ne, by k_ne, by k_ne, by k_ne, by k_ne, by k_ne⟩ rfl rfl)
        ⟨n1, n2, n3, n4, n5, n6, n7, n8, n9⟩ (List.forall_mem_cons.mpr ⟨by k_ne, List.forall_mem_cons.mpr ⟨by k_ne, List.forall_mem_cons.mpr ⟨by k_ne, n10⟩⟩⟩)
        ⟨Ok.send hO' (p := ⟨_, _, _, _, _, _⟩) rfl hz (by omega) (by omega), (by dsimp only; omega), (by dsimp only; omega), hnow'⟩
        (by intro y hy; simp only [List.mem_cons, List.not_mem_nil, or_false, not_or] at hy; obtain ⟨y1, y2, y3, y4⟩ := hy; simp only [y1, y2, y3, y4, if_false, tmp]))
    · exact hQ1 _ _ (for_lay (X := (⟨ap, asc, aw, asp, dsp, ast, act, dct, aou, aen, T, Tc, nm, ak, lt, rc, ls, lm, fu, un, wn, hn, ec, gn, c, tg⟩ : Fx)) (a := { a' with dr := a'.dr + 1 }) (by k_asm) (by k_asm) (by k_mem) (lay_in (R := R) (by k_asm) (by dsimp only; k_mem) (by dsimp only; k_mem) (by dsimp only; k_mem) (by dsimp only; k_mem) (by dsimp only; k_mem) (by dsimp only; k_mem) (by dsimp only; k_mem) (by dsimp only; k_mem) (by dsimp only; k_mem) (by tb_rel)
          ⟨by assumption, by assumption⟩ hth hrc hla hW hS hU hE hP ⟨r1, r2, r3, r4, r5, r6, r7, r8, r9⟩ rfl rfl rfl rfl rfl rfl rfl) ⟨n1, n2, n3, n4, n5, n6, n7, n8, n9⟩ n10
        ⟨⟨hO'.al, hO'.qs, hO'.f, hO'.perm, hO'.W, hO'.Wu, hO'.cr, hO'.cu, hO'.z, (by show 0 ≤ a'.dr + 1; omega), hO'.N⟩, (by dsimp only; omega), (by dsimp only; omega), hnow'⟩
        (by intro y hy; simp only [List.mem_cons, List.not_mem_nil, or_false, not_or] at hy; obtain ⟨y1, y2, y3, y4⟩ := hy; simp only [y1, y2, y3, y4, if_false, tmp]))
  case done =>
    intro h' tk m' nw F N hJ
    refine gen_P fun G9 kG9 => ?_
    obtain ⟨a', hL, hO', hN', hdr', hnow'⟩ := hJ
    refine kG9 ?_
    clear kG9
    (repeat' (first | (k_unfold; (try dsimp only)) | (k_end; wrow_close) | (with_reducible first | (k_here; (show wpAny _ _ (call (Value.ref 264) _) _ _ _); k_dflt (refine' Spec.useG (spec_take_number _ _ _ _ _ _ _ _ _ _ _ _ _ _ _ _ _ _ _ _ _ ?th) ?zB ?zF ?zX ?zN ?zP ?zA ?zR ?zT ?zk ?zd ?zu ?_); top_raise; (case zP => ktr_rel); (case th => k_ne); top_raiseB; top_args; k_dflt (obtain ⟨t1', t2', e1', e2'⟩ := P'; top_argsB)) | (k_here; (show wpAny _ _ (call (Value.ref 103) _) _ _ _); k_dflt (refine' Spec.useG (spec_ctl_sent _ _ _ _ _ _ _ _ _ _ _ _ _ ?ch) ?zB ?zF ?zX ?zN ?zP ?zA ?zR ?zT ?zk ?zd ?zu ?_); top_raise; (case zP => ktr_rel); (case ch => k_ne); top_raiseB; top_args; k_dflt (obtain ⟨t1', e1', e2'⟩ := P'; top_argsB)) | (k_here; (show wpAny _ _ (call (Value.ref 82) _) _ _ _); k_dflt (refine' Spec.useG (spec_may_send _ _ _ _ _ _ _ _ _ _ _ _ _ _ ?mh) ?zB ?zF ?zX ?zN ?zP ?zA ?zR ?zT ?zk ?zd ?zu ?_); top_raise; (case zP => ktr_rel); (case mh => k_ne); top_raiseB; top_args; k_dflt (obtain ⟨e1', e2'⟩ := P'; top_argsB)) | (k_here; (show wpAny _ _ (call (Value.ref 271) _) _ _ _); k_dflt (refine' Spec.use (spec_sp_sent _ _ _ _ _ _ _ _ _ _ _ _ _ _ _ _ _ _ _ _ _ _ _ _ _ _ _ _ _ _ _ _ ?sd ?ss ?s1 ?s2 ?s3 ?s4 ?s5 ?s6 ?s7 ?s8 ?s9 ?s10) ?zB ?zF ?zX ?zN ?zP ?zA ?zR ?zT ?zk ?zd ?zu (sent_ret ?_)); top_raise; (case zP => ktr_rel); (case sd => assumption); (case ss => ((try simp only [List.length_map]); omega)); (case s1 | s2 | s3 | s4 | s5 | s6 | s7 | s8 | s9 | s10 => k_ne); top_raiseB; intro pa' pd' k0' k1' k2' k3' k4' k5' od' h' tk' hd' hl' hm' hA1 hA2 F' N'; top_strB) | (k_here; (show wpAny _ _ (call (Value.ref 344) _) _ _ _); k_dflt (refine' Spec.use (spec_draw _ _ _ _ _ _ _ _ _ _ _ _ ?dhi ?dhl ?dp0 ?dp1 ?dp2 ?dp3 ?dm0 ?dm1) ?zB ?zF ?zX ?zN ?zP ?zA ?zR ?zT ?zk ?zd ?zu (draw_ret ?_)); top_raise; (case zP => ktr_rel); (case zR => (intro g1 st1 _; exact isList_stays st1 (by assumption))); (case dhi | dhl => assumption); (case dp0 | dp1 | dp2 | dp3 | dm0 | dm1 => omega); (case zA => ktr_unf); top_raise0; intro r' tr' p0' t0' t2' h' tk' hr0' hr1' hp0' hp1' F' N'; (try dsimp only); (try k_fold)) | (k_here; (show wpAny _ _ (subscriptTail _ _ (Value.ref _) (Value.int _ _)) _ _ _); k_dflt (refine' menu3 (kk := 0) ?mN ?mp ?m0 ?m1 ?_ ?ms ?mg; (case mN => k_asm); (case mp => k_mem); (case m0 => omega); (case m1 => omega); (case ms => with_unfolding_all rfl); (case mg => (intro _; with_unfolding_all rfl))); intro z' tz' hz') | (k_here; (show wpAny _ _ (subscriptTail _ _ (Value.ref _) (Value.str _ _)) _ _ _); k_dflt (refine' kda_item (knd := PySem.strKind _ _) ?N ?p ?d (strKind_is _ _ _ _) ?l ?_; (case N => k_asm); (case p => k_mem); (case d => assumption); (case l => exact rfl)))) | walk1 | dsimp only | (leave1; try dsimp only) | fail "no step"))
    all_goals (try dsimp only)
    exact hQ0 _ _ (LeafQ.fin (by k_asm) (by k_asm) ⟨a', rfl, hL, hO', by omega, by omega, hnow'⟩ (fun p hp => hp))

end
end

section
open PySem PySem.W PyProof.Rows PySem.Calls LCg LCt
set_option maxRecDepth 100000
set_option maxHeartbeats 8000000
set_option linter.unusedVariables false
section
theorem fresh_Kp : True := by
  w_top off
  exact trivial
local macro_rules | `(tactic| walk_at "no") => `(tactic| fail)


set_option hygiene false
set_option hygiene true
-- the tactics of the kit that this text gives a meaning of its own: ktr_rel the entries picked, ktr_unf what stands apart

section
variable {prog : Program} {w : World} {A : Around} {s : Shared} {h₀ : Heap} {L d : Addr} {o : Obj} {m : Str → Option Value} {news : List (Addr × Obj)} {E : Value → Shared → Prop} {Q : Value → Shared → Prop}
theorem list_out {ps : List Pk} (hh : A.handled = none) (F : Fr h₀ L s.heap m) (N : News h₀ L s.heap news) (hd : (d, o) ∈ news) (hD : o.IsDictOf (PySem.intKind prog w) (outOf ps)) (lo : (d == sysModules) = false) (h64 : (outOf ps).length < 64)
    (h : ∀ D (vs : Array Value) e h' tk, Fr h₀ L h' m → News h₀ L h' ((D, W.listOf vs e) :: news) → (∀ q ∈ news, q.1 < D) → IntsAre vs.toList (ps.map (·.n)) → Q (.ref D) { s with heap := h', toks := tk }) :
    wpAny (model prog w) A (call (.type "list") [.ref d]) Q E s := list_dict hh F N hd hD lo h64 fun D vs e h' tk F' N' l1 a1 => h D vs.toArray e h' tk F' N' l1 (keys_out ps ▸ a1)
theorem list_rng {r : Addr} {a b : Int} {t₀ u₀ v₀ : Tok} {n : Nat} (hh : A.handled = none) (F : Fr h₀ L s.heap m) (N : News h₀ L s.heap news) (hr : IsRange s.heap r a b 1 t₀ u₀ v₀) (hsmall : Builtin.Range.small a b 1 = true) (hn : Builtin.Range.rangeSize a b 1 = (n : Int)) (hz : n ≤ 2 ^ 24)
    (h : ∀ D (us : Array Value) c h' tk, Fr h₀ L h' m → News h₀ L h' ((D, W.listOf us c) :: news) → (∀ p ∈ news, p.1 < D) → IntsAre us.toList (rangeKs a n) → Q (.ref D) { s with heap := h', toks := tk }) :
    wpAny (model prog w) A (call (.type "list") [.ref r]) Q E s := kll_range hh F N hr hsmall hn hz fun D us c h' tk F' N' l1 hi => h D us.toArray c h' tk F' N' l1 (by simpa using hi)
theorem add_ints2 {a b : Addr} {its its2 : Array Value} {n n2 : Nat} {ns ms : List Int} (F : Fr h₀ L s.heap m) (N : News h₀ L s.heap news) (ha : (a, W.listOf its n) ∈ news) (hb : (b, W.listOf its2 n2) ∈ news) (hi : IntsAre its.toList ns) (hj : IntsAre its2.toList ms)
    (h : ∀ D (us : Array Value) h', Fr h₀ L h' m → News h₀ L h' ((D, W.listOf us 0) :: news) → (∀ p ∈ news, p.1 < D) → IntsAre us.toList (ns ++ ms) → Q (.ref D) { s with heap := h' })
    (hz : ns.length + ms.length ≤ sizeLine) : wpAny (model prog w) A (binaryOp .Add (.ref a) (.ref b)) Q E s :=
  kmk_add_ints F N (kso_isList N ha rfl) (kso_isList N hb rfl) hi hj (fun D us h' F' N' l1 hi' => h D us.toArray h' F' N' l1 (by simpa using hi')) hz
theorem eq_lists {a b : Addr} {its its2 : Array Value} {n n2 : Nat} {ns ms : List Int} (N : News h₀ L s.heap news) (ha : (a, W.listOf its n) ∈ news) (hb : (b, W.listOf its2 n2) ∈ news) (hi : IntsAre its.toList ns) (hj : IntsAre its2.toList ms) (hu : A.units + 64 < cLine)
    (h : Q (.bool (decide (ns = ms))) s) : wpAny (model prog w) A (compareOp .Eq (.ref a) (.ref b)) Q E s := ke_eq_ints (kso_isList N ha rfl) (kso_isList N hb rfl) hi hj hu h
end
theorem kept_eq {a : Ab} (h : Ok a) {ns : List Int} (hp : ns.Perm (a.ends ++ a.ps.map (·.n))) (hs : ns.Pairwise (· ≤ ·)) {n : Nat} (hn : n = a.N) : ns = PySem.W.rangeKs 0 n := by
  subst hn
  have e : PySem.W.rangeKs 0 a.N = (List.range a.N).map Int.ofNat := by
    unfold PySem.W.rangeKs
    exact List.map_congr_left fun i _ => by show (0 : Int) + (i : Int) = (i : Int); omega
  rw [e]
  refine List.Perm.eq_of_pairwise (le := fun (a b : Int) => a ≤ b) (fun x y _ _ h1 h2 => Int.le_antisymm h1 h2) hs ?_ (hp.trans h.perm)
  rw [List.pairwise_map]
  exact List.Pairwise.imp (fun h => by show ((_ : Nat) : Int) ≤ ((_ : Nat) : Int); omega) (List.pairwise_lt_range (n := a.N))
set_option hygiene false

set_option hygiene true
theorem spec_law_is_kept (w : World) (X : Fx) (a : Ab) (nw : List (Addr × Obj)) (h9 : Nine X) (hL : Lay w X a nw) (hO : Ok a) :
    Spec w 375 90 1400 [.ref X.aw] nw (fun _ => True) (fun v post => v = .bool true ∧ Lay w X a post) := by
  refine gen_P fun G9 kG9 => ?_
  rcases X with ⟨ap, asc, aw, asp, dsp, ast, act, dct, aou, aen, T, Tc, nm, ak, lt, rc, ls, lm, fu, un, wn, hn, ec, gn, c, tg⟩
  refine Lay.elim' hL fun p0 t0 t2 tN le tW tf tc th rcv tn ow ost oou ens ke R hp0 hp0' hth hrc hla hW hS hU hE hP r1 r2 r3 r4 r5 r6 r7 r8 r9 enw => ?_
  refine Nine.elim' h9 fun h01 h02 h03 h04 h05 h06 h07 h08 h12 h13 h14 h15 h16 h17 h18 h23 h24 h25 h26 h27 h28 h34 h35 h36 h37 h38 h45 h46 h47 h48 h56 h57 h58 h67 h68 h78 lw ls' lo' => ?_
  clear hL h9
  cases enw
  refine kG9 ?_
  clear kG9
  have hWs := hW
  dsimp only [mains, List.cons_append, List.nil_append]
  have hdr0 := hO.dr
  have hW0 := hO.W
  have hc0 := hO.cr
  have hc1 := hO.cu
  have hlp : a.ps.length ≤ 61 := by have := hO.len; have := hO.N; omega
  have hle : a.ends.length ≤ 61 := by have := hO.len; have := hO.N; omega
  have hlN : a.ends.length + a.ps.length = a.N := hO.len
  have hNu := hO.N
  have hf0 := hO.f
  rw [hO.qs] at hU
  unfold Spec
  k_fill
  intro dp9z un9z gd9z cn9z cs9z a9z ccd9z cl9z outer9z A₀9z base9z h₀9z L9z m9z s9z Q9z E9z mean9z mg9z mb9z news9z rest9z hB9z hF9z hX9z hN9z hsub9z hrs9z hAp9z hRo9z hT9z hk9z hd9z hu9z hret9z
  first
  | (k_dflt (refine' fr_call hB9z hF9z hX9z hN9z hsub9z hrs9z hAp9z hT9z rfl rfl hk9z ?k6 ?k7 ?k8 ?k9 ?kB hret9z ?_ ?c2 ?c3 ?c4 ?c5; (case k6 => k_is); (case k7 => k_is); (case k8 => ktr_room); (case k9 => exact BindsTo.of_eq rfl); (case c5 => decide); (case kB => exact locs rfl); (case c2 => exact rfl); (case c3 => exact rfl); (case c4 => exact rfl))
     k_whole
     intro g9z' L9z' h9z' tk9z' st9z' hR9z' F9z' N9z' B9z' X9z' T9z'
     have hRo9z' := hRo9z g9z' st9z' hR9z'
     (try dsimp only at hRo9z')
     clear hB9z hF9z hX9z hN9z hsub9z hrs9z hAp9z hRo9z hT9z hret9z st9z' hR9z')
  | (k_dflt (refine' fr_callC hB9z hF9z hX9z hN9z hsub9z hrs9z hAp9z hT9z rfl rfl hk9z ?k6 ?k7 ?k8 ?k9 ?kB ?kD hret9z ?_ ?c2 ?c3 ?c4; (case k6 => k_is); (case k7 => k_is); (case k8 => ktr_room); (case k9 => exact BindsTo.of_eq rfl); (case kB => exact rfl); (case kD => decide +kernel); (case c2 => exact rfl); (case c3 => exact rfl); (case c4 => exact rfl))
     k_whole
     intro g9z' L9z' h9z' tk9z' cells9z' st9z' hR9z' F9z' N9z' Y9z' B9z' X9z' T9z' l19z
     have hRo9z' := hRo9z g9z' st9z' hR9z'
     (try dsimp only at hRo9z')
     clear hB9z hF9z hX9z hN9z hsub9z hrs9z hAp9z hRo9z hT9z hret9z st9z' hR9z'
     (try k_lt l19z)
     k_cells Y9z'
     (try dsimp only [List.cons_append, List.nil_append] at N9z'))
  (try dsimp only)
  (try k_fold)
  refine gen_Q fun Q0 hQ0 => ?_
  (repeat' (first | (k_unfold; (try dsimp only)) | (k_end; wrow_close) | (with_reducible first | (k_here; (show wpAny _ _ (compareOp CmpOp.Eq (Value.ref _) (Value.ref _)) _ _ _); k_dflt (refine' eq_lists ?eqN ?eqa ?eqb ?eqi ?eqj ?equ ?_; (case eqN => k_asm); (case eqa => k_mem); (case eqb => k_mem); (case eqi => assumption); (case eqj => assumption); (case equ => ktr_units))) | (k_here; (show wpAny _ _ (binaryOp _ (Value.ref _) (Value.ref _)) _ _ _); k_dflt (refine' add_ints2 ?adF ?adN ?ada ?adb ?adi ?adj ?_ ?adz; (case adF => k_asm); (case adN => k_asm); (case ada => k_mem); (case adb => k_mem); (case adi => assumption); (case adj => assumption); (case adz => (rw [sizeLine_eq]; (try simp only [List.length_map]); omega))); intro D' us' h' F' N' l1 a1'; (try k_lt l1)) | (k_here; (show wpAny _ _ (call (Value.type "list") [Value.ref _]) _ _ _); k_dflt (first | (refine' list_out ?sdh ?sdF ?sdN ?sdd ?sdD ?sdl ?sdz ?_; (case sdh => rfl); (case sdF => k_asm); (case sdN => k_asm); (case sdd => k_mem); (case sdD => assumption); (case sdl => assumption); (case sdz => ((try simp only [List.length_map]); omega))) | (refine' list_rng ?sdh ?sdF ?sdN ?sdd ?sdD (rangeSize_nat _ _) ?sdz ?_; (case sdh => rfl); (case sdF => k_asm); (case sdN => k_asm); (case sdd => assumption); (case sdD => exact small_one (by decide) (by decide) (by omega) (by omega)); (case sdz => omega))); intro D' vs' e' h' tk' F' N' l1 a1'; (try k_lt l1)) | (k_here; (show wpAny _ _ (call (Value.ref 316) _) _ _ _); k_dflt (refine' Spec.useG (spec_octets_out _ _ _ _ _ _ _ _ _ _ _ _ _ _ _ _ _ _ _ _ _ _ ?oD ?ol ?os ?o1 ?o2 ?o5) ?zB ?zF ?zX ?zN ?zP ?zA ?zR ?zT ?zk ?zd ?zu ?_); top_raise; (case zP => ktr_rel); (case oD | ol => assumption); (case os => omega); (case o1 | o2 | o5 => k_ne); (case zA => ktr_unf); (case zR => k_dflt (intro g1 _ hr9; exact fun p hp => PkIn.at (hP p (by first | exact hp | (rw [hO.al]; exact hp))) fun x hx => hr9 x (by (repeat (first | exact hx | refine List.Mem.tail _ ?_))))); top_raise0; top_args; k_dflt (obtain ⟨tt', e1', e2'⟩ := P'; top_argsB)) | (k_here; (show wpAny _ _ (call (Value.builtin "sorted") [Value.ref _]) _ _ _); k_dflt (refine' sorted_at ?soF ?soN ?sod ?soi ?soz ?_; (case soF => k_asm); (case soN => k_asm); (case sod => k_mem); (case soi => assumption); (case soz => first | assumption | omega)); intro D' vs' ns' e' h' F' N' l1 a1' a2' a3'; (try k_lt l1)) | (k_here; (show wpAny _ _ (eval (Expr.ListComp _ [⟨_, Expr.Call (Expr.Attribute _ (Str.ofString "values") _) _ _ _, [], _⟩] _ _) _) _ _ _); k_dflt (refine ListComp_V (knd := PySem.intKind PySem.Challenge.rw_pb0526_01.row.prog _) (F₀ := by k_asm) (by with_unfolding_all rfl) (by decide) (by rfl) (by decide) (by rfl) ?_)) | (k_here; (show wpAny _ _ (subscriptTail _ _ (Value.ref _) (Value.str _ _)) _ _ _); k_dflt (refine' kda_item (knd := PySem.strKind _ _) ?N ?p ?d (strKind_is _ _ _ _) ?l ?_; (case N => k_asm); (case p => k_mem); (case d => assumption); (case l => exact rfl)))) | walk1 | dsimp only | (leave1; try dsimp only) | fail "no step"))
  all_goals (try dsimp only)
  refine ⟨_, _, _, _, _, rfl, rfl, by k_asm, by k_asm, by k_mem, by k_mem, hU, ?_, fun s₂ hs₂ => ?_⟩
  · rw [sizeLine_eq]; simp only [List.length_map]; omega
  refine gen_P fun G9 kG9 => ?_
  obtain ⟨g₂, rfl⟩ := hs₂
  refine kG9 ?_
  clear kG9
  refine comp_keep (fun i ys => IntsAre ys ((a.ps.take i).map (·.z))) .nil ?_ ?_
  · intro i ys v I oI C oC D m₂ h tk E' hi hys hPi hC hx F N off hne
    refine gen_P fun G9 kG9 => ?_
    obtain ⟨p, hp, rfl⟩ := out_at hPi
    obtain ⟨_, _, tt, tz, hpu⟩ := hP p (by rw [hO.al]; exact List.mem_of_getElem? hp)
    refine kG9 ?_
    clear kG9
    have N9 : News _ _ _ ((p.u, tupO [.int p.t tt, .int p.z tz]) :: _) := fun q hq => by
      rcases List.mem_cons.mp hq with rfl | hq
      · exact N _ (by (repeat (first | exact hpu | refine List.Mem.tail _ ?_)))
      · exact N q hq
    (repeat' (first | (k_unfold; (try dsimp only)) | (k_end; wrow_close) | (with_reducible first | (k_here; (show wpAny _ _ (compareOp CmpOp.Eq (Value.ref _) (Value.ref _)) _ _ _); k_dflt (refine' eq_lists ?eqN ?eqa ?eqb ?eqi ?eqj ?equ ?_; (case eqN => k_asm); (case eqa => k_mem); (case eqb => k_mem); (case eqi => assumption); (case eqj => assumption); (case equ => ktr_units))) | (k_here; (show wpAny _ _ (binaryOp _ (Value.ref _) (Value.ref _)) _ _ _); k_dflt (refine' add_ints2 ?adF ?adN ?ada ?adb ?adi ?adj ?_ ?adz; (case adF => k_asm); (case adN => k_asm); (case ada => k_mem); (case adb => k_mem); (case adi => assumption); (case adj => assumption); (case adz => (rw [sizeLine_eq]; (try simp only [List.length_map]); omega))); intro D' us' h' F' N' l1 a1'; (try k_lt l1)) | (k_here; (show wpAny _ _ (call (Value.type "list") [Value.ref _]) _ _ _); k_dflt (first | (refine' list_out ?sdh ?sdF ?sdN ?sdd ?sdD ?sdl ?sdz ?_; (case sdh => rfl); (case sdF => k_asm); (case sdN => k_asm); (case sdd => k_mem); (case sdD => assumption); (case sdl => assumption); (case sdz => ((try simp only [List.length_map]); omega))) | (refine' list_rng ?sdh ?sdF ?sdN ?sdd ?sdD (rangeSize_nat _ _) ?sdz ?_; (case sdh => rfl); (case sdF => k_asm); (case sdN => k_asm); (case sdd => assumption); (case sdD => exact small_one (by decide) (by decide) (by omega) (by omega)); (case sdz => omega))); intro D' vs' e' h' tk' F' N' l1 a1'; (try k_lt l1)) | (k_here; (show wpAny _ _ (call (Value.ref 316) _) _ _ _); k_dflt (refine' Spec.useG (spec_octets_out _ _ _ _ _ _ _ _ _ _ _ _ _ _ _ _ _ _ _ _ _ _ ?oD ?ol ?os ?o1 ?o2 ?o5) ?zB ?zF ?zX ?zN ?zP ?zA ?zR ?zT ?zk ?zd ?zu ?_); top_raise; (case zP => ktr_rel); (case oD | ol => assumption); (case os => omega); (case o1 | o2 | o5 => k_ne); (case zA => ktr_unf); (case zR => k_dflt (intro g1 _ hr9; exact fun p hp => PkIn.at (hP p (by first | exact hp | (rw [hO.al]; exact hp))) fun x hx => hr9 x (by (repeat (first | exact hx | refine List.Mem.tail _ ?_))))); top_raise0; top_args; k_dflt (obtain ⟨tt', e1', e2'⟩ := P'; top_argsB)) | (k_here; (show wpAny _ _ (call (Value.builtin "sorted") [Value.ref _]) _ _ _); k_dflt (refine' sorted_at ?soF ?soN ?sod ?soi ?soz ?_; (case soF => k_asm); (case soN => k_asm); (case sod => k_mem); (case soi => assumption); (case soz => first | assumption | omega)); intro D' vs' ns' e' h' F' N' l1 a1' a2' a3'; (try k_lt l1)) | (k_here; (show wpAny _ _ (eval (Expr.ListComp _ [⟨_, Expr.Call (Expr.Attribute _ (Str.ofString "values") _) _ _ _, [], _⟩] _ _) _) _ _ _); k_dflt (refine ListComp_V (knd := PySem.intKind PySem.Challenge.rw_pb0526_01.row.prog _) (F₀ := by k_asm) (by with_unfolding_all rfl) (by decide) (by rfl) (by decide) (by rfl) ?_)) | (k_here; (show wpAny _ _ (subscriptTail _ _ (Value.ref _) (Value.str _ _)) _ _ _); k_dflt (refine' kda_item (knd := PySem.strKind _ _) ?N ?p ?d (strKind_is _ _ _ _) ?l ?_; (case N => k_asm); (case p => k_mem); (case d => assumption); (case l => exact rfl)))) | walk1 | dsimp only | (leave1; try dsimp only) | fail "no step"))
    exact compEnd_keep (by k_asm) (by k_asm) (fun p hp => .tail _ hp) off (by k_mem) (by rw [take_snoc hp, List.map_append]; exact IntsAre.append hys (.cons _ _ .nil))
  · intro ys hys
    have hys' : IntsAre ys (a.ps.map (·.z)) := by simpa using hys
    clear hys
    (repeat' (first | (k_unfold; (try dsimp only)) | (k_end; wrow_close) | (with_reducible first | (k_here; (show wpAny _ _ (compareOp CmpOp.Eq (Value.ref _) (Value.ref _)) _ _ _); k_dflt (refine' eq_lists ?eqN ?eqa ?eqb ?eqi ?eqj ?equ ?_; (case eqN => k_asm); (case eqa => k_mem); (case eqb => k_mem); (case eqi => assumption); (case eqj => assumption); (case equ => ktr_units))) | (k_here; (show wpAny _ _ (binaryOp _ (Value.ref _) (Value.ref _)) _ _ _); k_dflt (refine' add_ints2 ?adF ?adN ?ada ?adb ?adi ?adj ?_ ?adz; (case adF => k_asm); (case adN => k_asm); (case ada => k_mem); (case adb => k_mem); (case adi => assumption); (case adj => assumption); (case adz => (rw [sizeLine_eq]; (try simp only [List.length_map]); omega))); intro D' us' h' F' N' l1 a1'; (try k_lt l1)) | (k_here; (show wpAny _ _ (call (Value.type "list") [Value.ref _]) _ _ _); k_dflt (first | (refine' list_out ?sdh ?sdF ?sdN ?sdd ?sdD ?sdl ?sdz ?_; (case sdh => rfl); (case sdF => k_asm); (case sdN => k_asm); (case sdd => k_mem); (case sdD => assumption); (case sdl => assumption); (case sdz => ((try simp only [List.length_map]); omega))) | (refine' list_rng ?sdh ?sdF ?sdN ?sdd ?sdD (rangeSize_nat _ _) ?sdz ?_; (case sdh => rfl); (case sdF => k_asm); (case sdN => k_asm); (case sdd => assumption); (case sdD => exact small_one (by decide) (by decide) (by omega) (by omega)); (case sdz => omega))); intro D' vs' e' h' tk' F' N' l1 a1'; (try k_lt l1)) | (k_here; (show wpAny _ _ (call (Value.ref 316) _) _ _ _); k_dflt (refine' Spec.useG (spec_octets_out _ _ _ _ _ _ _ _ _ _ _ _ _ _ _ _ _ _ _ _ _ _ ?oD ?ol ?os ?o1 ?o2 ?o5) ?zB ?zF ?zX ?zN ?zP ?zA ?zR ?zT ?zk ?zd ?zu ?_); top_raise; (case zP => ktr_rel); (case oD | ol => assumption); (case os => omega); (case o1 | o2 | o5 => k_ne); (case zA => ktr_unf); (case zR => k_dflt (intro g1 _ hr9; exact fun p hp => PkIn.at (hP p (by first | exact hp | (rw [hO.al]; exact hp))) fun x hx => hr9 x (by (repeat (first | exact hx | refine List.Mem.tail _ ?_))))); top_raise0; top_args; k_dflt (obtain ⟨tt', e1', e2'⟩ := P'; top_argsB)) | (k_here; (show wpAny _ _ (call (Value.builtin "sorted") [Value.ref _]) _ _ _); k_dflt (refine' sorted_at ?soF ?soN ?sod ?soi ?soz ?_; (case soF => k_asm); (case soN => k_asm); (case sod => k_mem); (case soi => assumption); (case soz => first | assumption | omega)); intro D' vs' ns' e' h' F' N' l1 a1' a2' a3'; (try k_lt l1)) | (k_here; (show wpAny _ _ (eval (Expr.ListComp _ [⟨_, Expr.Call (Expr.Attribute _ (Str.ofString "values") _) _ _ _, [], _⟩] _ _) _) _ _ _); k_dflt (refine ListComp_V (knd := PySem.intKind PySem.Challenge.rw_pb0526_01.row.prog _) (F₀ := by k_asm) (by with_unfolding_all rfl) (by decide) (by rfl) (by decide) (by rfl) ?_)) | (k_here; (show wpAny _ _ (subscriptTail _ _ (Value.ref _) (Value.str _ _)) _ _ _); k_dflt (refine' kda_item (knd := PySem.strKind _ _) ?N ?p ?d (strKind_is _ _ _ _) ?l ?_; (case N => k_asm); (case p => k_mem); (case d => assumption); (case l => exact rfl)))) | walk1 | dsimp only | (leave1; try dsimp only) | fail "no step"))
    all_goals (try dsimp only)
    · exact absurd hf0 (by assumption)
    · exact absurd rfl (by assumption)
    · rename List.Perm _ _ => hp
      rename List.Pairwise _ _ => hs
      have e := kept_eq hO hp hs (n := ((a.N : Int) - 0).toNat) (by omega)
      exact hQ0 _ _ (leaf_lay (X := (⟨ap, asc, aw, asp, dsp, ast, act, dct, aou, aen, T, Tc, nm, ak, lt, rc, ls, lm, fu, un, wn, hn, ec, gn, c, tg⟩ : Fx)) (a := a) (by k_asm) (by k_asm) (lay_in (R := R) (by k_asm) (by dsimp only; k_mem) (by dsimp only; k_mem) (by dsimp only; k_mem) (by dsimp only; k_mem) (by dsimp only; k_mem) (by dsimp only; k_mem) (by dsimp only; k_mem) (by dsimp only; k_mem) (by dsimp only; k_mem) (by tb_rel) ⟨by assumption, by assumption⟩ hth hrc hla hW hS (by rw [hO.qs]; exact hU) hE hP ⟨r1, r2, r3, r4, r5, r6, r7, r8, r9⟩ rfl rfl rfl rfl rfl rfl rfl) fun nw h => ⟨by rw [e]; simp, h⟩)

end
end

section
open PySem PySem.W PyProof.Rows PySem.Calls LCg LCt
set_option maxRecDepth 100000
set_option maxHeartbeats 1600000
set_option linter.unusedVariables false
section

theorem keepN_perm {ps : List Pk} {l l' : List Int} (h : l.Perm l') : keepN ps l = keepN ps l' := by
  unfold keepN
  congr 1
  funext p
  simp only [h.mem_iff]
theorem nodup_of_map {α β : Type} {f : α → β} {l : List α} (h : (l.map f).Nodup) : l.Nodup := by
  unfold List.Nodup at h ⊢
  rw [List.pairwise_map] at h
  exact h.imp fun hab e => hab (congrArg f e)
theorem ofNum_mem {ps : List Pk} (hn : (ps.map (·.n)).Nodup) {p : Pk} (hp : p ∈ ps) : ofNum ps p.n = some p := by
  obtain ⟨i, hi, e⟩ := List.mem_iff_getElem.mp hp
  exact ofNum_at hn (List.getElem?_eq_some_iff.mpr ⟨hi, e⟩)
theorem pks_map {ps : List Pk} : ∀ {l : List Int}, (∀ x ∈ l, x ∈ ps.map (·.n)) → (pksOf ps l).map (·.n) = l
  | [], _ => rfl
  | x :: r, h => by
    obtain ⟨p, hp, _, e⟩ := ofNum_some (h x (.head _))
    have ih := pks_map (l := r) fun y hy => h y (.tail _ hy)
    unfold pksOf at ih ⊢
    rw [List.filterMap_cons, hp]
    simp only [List.map_cons, ih, e]
theorem pks_mem {ps : List Pk} (hn : (ps.map (·.n)).Nodup) {l : List Int} {p : Pk} : p ∈ pksOf ps l ↔ p ∈ ps ∧ p.n ∈ l := by
  unfold pksOf
  rw [List.mem_filterMap]
  constructor
  · rintro ⟨x, hx, e⟩
    have h1 := List.mem_of_find?_eq_some e
    have h2 : p.n = x := by have := List.find?_some e; simpa using this
    exact ⟨h1, by rw [h2]; exact hx⟩
  · rintro ⟨hp, hl⟩
    exact ⟨p.n, hl, ofNum_mem hn hp⟩
theorem pks_perm {ps : List Pk} (hn : (ps.map (·.n)).Nodup) {l : List Int} (hl : l.Nodup) (hs : ∀ x ∈ l, x ∈ ps.map (·.n)) : (pksOf ps l ++ keepN ps l).Perm ps := by
  refine (List.perm_ext_iff_of_nodup ?_ (nodup_of_map hn)).mpr fun p => ?_
  · refine List.nodup_append.mpr ⟨nodup_of_map (f := (·.n)) (by rw [pks_map hs]; exact hl), (nodup_of_map hn).sublist List.filter_sublist, fun a ha b hb e => ?_⟩
    subst e
    exact (keepN_mem.mp hb).2 ((pks_mem hn).mp ha).2
  · rw [List.mem_append, pks_mem hn, keepN_mem]
    constructor
    · rintro (h | h) <;> exact h.1
    · intro h
      by_cases e : p.n ∈ l
      · exact .inl ⟨h, e⟩
      · exact .inr ⟨h, e⟩
theorem pks_sum {ps : List Pk} : ∀ {l : List Int}, (∀ x ∈ l, x ∈ ps.map (·.n)) → (l.map fun x => ((ofNum ps x).map (·.z)).getD 0).sum = ((pksOf ps l).map (·.z)).sum
  | [], _ => rfl
  | x :: r, h => by
    obtain ⟨p, hp, _, e⟩ := ofNum_some (h x (.head _))
    have ih := pks_sum (l := r) fun y hy => h y (.tail _ hy)
    unfold pksOf at ih ⊢
    rw [List.filterMap_cons, hp]
    simp only [List.map_cons, List.sum_cons, ih, hp, Option.map_some, Option.getD_some]
theorem perm_sum {l l' : List Int} (h : l.Perm l') : l.sum = l'.sum := by
  induction h with
  | nil => rfl
  | cons x _ ih => rw [List.sum_cons, List.sum_cons, ih]
  | swap x y l => rw [List.sum_cons, List.sum_cons, List.sum_cons, List.sum_cons]; omega
  | trans _ _ h1 h2 => exact h1.trans h2
theorem sum_split {ps : List Pk} (hn : (ps.map (·.n)).Nodup) {l : List Int} (hl : l.Nodup) (hs : ∀ x ∈ l, x ∈ ps.map (·.n)) : ((pksOf ps l).map (·.z)).sum + ((keepN ps l).map (·.z)).sum = (ps.map (·.z)).sum := by
  have := perm_sum ((pks_perm hn hl hs).map (·.z))
  rw [List.map_append, List.sum_append] at this
  exact this
theorem sum_nonneg : ∀ {ps : List Pk}, (∀ p ∈ ps, 2 ≤ p.z ∧ p.z ≤ 100) → 0 ≤ (ps.map (·.z)).sum
  | [], _ => Int.le_refl _
  | p :: r, h => by
    have h1 := (h p (.head _)).1
    have h2 := sum_nonneg (ps := r) fun q hq => h q (.tail _ hq)
    simp only [List.map_cons, List.sum_cons]
    omega
theorem Ok.nd2 {a : Ab} (h : Ok a) : (a.ps.map (·.n)).Nodup := (List.nodup_append.mp h.nd).2.1
/-- packets that end -/
theorem Ok.stop {a : Ab} (h : Ok a) {l : List Int} (hl : l.Nodup) (hs : ∀ x ∈ l, x ∈ a.ps.map (·.n)) {l' : List Int} (hp : l'.Perm l) {W f cr : Int} {la : Value} (hW : 200 ≤ W) (hWu : W ≤ a.W + ((pksOf a.ps l).map (·.z)).sum) (hc : 0 ≤ cr) (hcu : cr < W) (hf : f = a.f - ((pksOf a.ps l).map (·.z)).sum) :
    Ok { a with al := keepN a.ps l, ps := keepN a.ps l, qs := keepN a.ps l, ends := a.ends ++ l', W := W, f := f, cr := cr, la := la } := by
  have hsum := sum_split h.nd2 hl hs
  refine ⟨rfl, rfl, ?_, ?_, hW, ?_, hc, hcu, ?_, h.dr, h.N⟩
  · show f = _
    rw [hf, h.f]
    show _ = ((keepN a.ps l).map (·.z)).sum
    omega
  · show ((a.ends ++ l') ++ (keepN a.ps l).map (·.n)).Perm _
    refine List.Perm.trans ?_ h.perm
    rw [List.append_assoc]
    refine List.Perm.append_left _ ?_
    have := (pks_perm h.nd2 hl hs).map (·.n)
    rw [List.map_append, pks_map hs] at this
    exact (List.Perm.append_right _ hp).trans this
  · show W + ((keepN a.ps l).map (·.z)).sum ≤ 1000 + 100 * (a.N : Int)
    have := h.Wu
    omega
  · intro p hp
    exact h.z p (keepN_mem.mp hp).1
theorem without_out (qs : List Pk) (n : Int) : without (outOf qs) n = outOf (qs.filter fun p => decide (p.n ≠ n)) := by
  unfold without outOf
  rw [List.filter_map]
  rfl
theorem value_out {ps : List Pk} (hn : (ps.map (·.n)).Nodup) {p : Pk} (hp : p ∈ ps) : valueAt (outOf ps) p.n = some (.ref p.u) := by
  obtain ⟨j, hj⟩ := List.getElem?_of_mem hp
  exact valueAt_of_get (by rw [keys_out]; exact hn) (i := j) (by rw [List.getElem?_map, hj]; rfl)
theorem pks_len {ps : List Pk} (hn : (ps.map (·.n)).Nodup) {l : List Int} (hl : l.Nodup) (hs : ∀ x ∈ l, x ∈ ps.map (·.n)) : l.length ≤ ps.length := by
  have h1 := (pks_perm hn hl hs).length_eq
  have h2 := congrArg List.length (pks_map hs)
  rw [List.length_map] at h2
  rw [List.length_append] at h1
  omega
theorem due_far {l n t now z : Int} {tk : Tok} {a d u : Addr} (h1 : n ≤ l) (h2 : n + 3 ≤ l) : due (.int l tk) now ⟨n, t, z, a, d, u⟩ = decide (n + 3 ≤ l) := by
  simp [due, isLost, h1, h2]
theorem due_time {l n t now z : Int} {tk : Tok} {a d u : Addr} (h1 : n ≤ l) (h2 : ¬ n + 3 ≤ l) : due (.int l tk) now ⟨n, t, z, a, d, u⟩ = decide (t + 500 ≤ now) := by
  simp [due, isLost, h1, h2]
theorem due_no {l n t now z : Int} {tk : Tok} {a d u : Addr} (h1 : ¬ n ≤ l) : due (.int l tk) now ⟨n, t, z, a, d, u⟩ = decide (n ≤ l) := by
  simp [due, h1]
section
variable {prog : Program} {w : World} {A : Around} {s : Shared} {h₀ : Heap} {L : Addr} {m : Str → Option Value} {news news' : List (Addr × Obj)} {E : Value → Shared → Prop} {Q : Value → Shared → Prop}
theorem extend_list {a b : Addr} {its its2 : Array Value} {n n2 : Nat} (F : Fr h₀ L s.heap m) (N : News h₀ L s.heap news) (hb : (b, PySem.W.listOf its2 n2) ∈ news) (hne : 0 < its2.size) (hz : its.size ≤ 1000) (hz2 : its2.size ≤ 1000)
    (U : Upd a (W.listOf its n) (W.listOf (its.toList ++ its2.toList).toArray (n + 1)) news news')
    (h : ∀ h', Fr h₀ L h' m → News h₀ L h' news' → Q .none { s with heap := h' }) : wpAny (model prog w) A (call (.builtin "list.extend") [.ref a, .ref b]) Q E s :=
  kl_extend F N hb rfl (by rw [Array.length_toList]; omega) U (by
    intro h
    simp only [Builtin.List.listTooLong, Bool.and_eq_true, decide_eq_true_eq, sizeLine_eq] at h
    omega) (by rw [Array.length_toList, sizeLine_eq]; omega) (by rw [sizeLine_eq]; omega) h
end
end
end

section
open PySem PySem.W PyProof.Rows PySem.Calls LCg LCt
set_option maxRecDepth 100000
set_option maxHeartbeats 8000000
set_option linter.unusedVariables false
section
theorem fresh_Lz : True := by
  w_top off
  exact trivial



set_option hygiene false
set_option hygiene true
-- the tactics of the kit that this text gives a meaning of its own: ktr_rel the entries picked, ktr_unf what stands apart

theorem spec_lost_any (w : World) (act dct : Addr) (T : Nat → Tok) (th rc : Value) (Wd f z c now : Int) (nv : Value) (tW tf tz tc tn : Tok) (tg : Tok) (hnv : OptInt nv) (hth : OptInt th) (hrc : OptInt rc) (hne : act ≠ dct) (hW : 200 ≤ Wd) (hW' : Wd < 2 ^ 30) (hc : 0 ≤ c) (hc' : c < Wd) :
    Spec w 138 50 800 [.ref act, .int z tz, nv, .int now tn] (ctl w act dct T (.int 100 tg) (.int Wd tW) th rc (.int f tf) (.int c tc)) (fun _ => True)
      (LostPost1 w act dct T tg Wd z f) := by
  cases hnv with
  | int i t => exact spec_lost w act dct T th rc Wd f z c i now tW tf tz tc t tn tg hth hrc hne hW hW' hc hc'
  | none =>
    unfold Spec
    k_fill
    intro dp9z un9z gd9z cn9z cs9z a9z ccd9z cl9z outer9z A₀9z base9z h₀9z L9z m9z s9z Q9z E9z mean9z mg9z mb9z news9z rest9z hB9z hF9z hX9z hN9z hsub9z hrs9z hAp9z hRo9z hT9z hk9z hd9z hu9z hret9z
    first
    | (k_dflt (refine' fr_call hB9z hF9z hX9z hN9z hsub9z hrs9z hAp9z hT9z rfl rfl hk9z ?k6 ?k7 ?k8 ?k9 ?kB hret9z ?_ ?c2 ?c3 ?c4 ?c5; (case k6 => k_is); (case k7 => k_is); (case k8 => ktr_room); (case k9 => exact BindsTo.of_eq rfl); (case c5 => decide); (case kB => exact locs rfl); (case c2 => exact rfl); (case c3 => exact rfl); (case c4 => exact rfl))
       k_whole
       intro g9z' L9z' h9z' tk9z' st9z' hR9z' F9z' N9z' B9z' X9z' T9z'
       have hRo9z' := hRo9z g9z' st9z' hR9z'
       (try dsimp only at hRo9z')
       clear hB9z hF9z hX9z hN9z hsub9z hrs9z hAp9z hRo9z hT9z hret9z st9z' hR9z')
    | (k_dflt (refine' fr_callC hB9z hF9z hX9z hN9z hsub9z hrs9z hAp9z hT9z rfl rfl hk9z ?k6 ?k7 ?k8 ?k9 ?kB ?kD hret9z ?_ ?c2 ?c3 ?c4; (case k6 => k_is); (case k7 => k_is); (case k8 => ktr_room); (case k9 => exact BindsTo.of_eq rfl); (case kB => exact rfl); (case kD => decide +kernel); (case c2 => exact rfl); (case c3 => exact rfl); (case c4 => exact rfl))
       k_whole
       intro g9z' L9z' h9z' tk9z' cells9z' st9z' hR9z' F9z' N9z' Y9z' B9z' X9z' T9z' l19z
       have hRo9z' := hRo9z g9z' st9z' hR9z'
       (try dsimp only at hRo9z')
       clear hB9z hF9z hX9z hN9z hsub9z hrs9z hAp9z hRo9z hT9z hret9z st9z' hR9z'
       (try k_lt l19z)
       k_cells Y9z'
       (try dsimp only [List.cons_append, List.nil_append] at N9z'))
    (try dsimp only)
    (try k_fold)
    refine gen_Q fun Q0 hQ0 => ?_
    k_steps
    all_goals (try dsimp only)
    all_goals exact hQ0 _ _ (ctl_end (by k_asm) (by k_asm) (by k_mem) (by k_mem) (lost_post1 hth hrc hW (half_le hW) (Int.le_refl _) hc hc'))

end
end

section
open PySem PySem.W PyProof.Rows PySem.Calls LCg LCt
set_option maxRecDepth 100000
set_option maxHeartbeats 4000000
set_option linter.unusedVariables false
section
theorem fresh_Lo : True := by
  w_top off
  exact trivial



set_option hygiene false
set_option hygiene true
-- the tactics of the kit that this text gives a meaning of its own: ktr_rel the entries picked, ktr_unf what stands apart
local macro_rules | `(tactic| tb_rel) => `(tactic| first | (with_reducible exact sub_refl) | (with_reducible exact sub_skip sub_refl) | (with_reducible exact sub_skip (sub_skip sub_refl)) | ((with_reducible refine' sub_keep ?ska); (case ska => tb_rel)) | exact sub_nil | (refine sub_cons ?a ?b; (case a => k_mem); (case b => tb_rel)) | (intro q9 hq9; (repeat (first | assumption | refine List.Mem.tail _ ?_))))

theorem ints_any {k : Int} : ∀ {vs : List Value} {ns : List Int}, IntsAre vs ns → kf_ints vs = true ∧ vs.any (isInt k) = decide (k ∈ ns)
  | _, _, .nil => ⟨rfl, rfl⟩
  | _, _, .cons a t r => by
    obtain ⟨h1, h2⟩ := ints_any (k := k) r
    refine ⟨h1, ?_⟩
    rw [List.any_cons, h2]
    have : isInt k (.int a t) = decide (k = a) := by
      unfold isInt
      by_cases e : a = k
      · subst e; simp
      · simp [e, Ne.symm e]
    rw [this]
    simp [List.mem_cons]

section
variable {prog : Program} {w : World} {A : Around} {s : Shared} {h₀ : Heap} {L d : Addr} {o : Obj} {m : Str → Option Value} {news : List (Addr × Obj)} {E : Value → Shared → Prop} {Q : Value → Shared → Prop}
theorem in_ints {l : Addr} {its : Array Value} {k : Nat} {n : Int} {t : Tok} {ns : List Int} {b : Bool} (N : News h₀ L s.heap news) (hm : (l, W.listOf its k) ∈ news) (hi : IntsAre its.toList ns) (hb : decide (n ∈ ns) = b) (h : Q (.bool b) s) :
    wpAny (model prog w) A (compareOp .In (.int n t) (.ref l)) Q E s := kf_in N hm (ints_any (k := n) hi).1 ((ints_any hi).2.trans hb) h
theorem ne_nil {a b : Addr} {its : Array Value} {n n2 : Nat} {ns : List Int} (N : News h₀ L s.heap news) (ha : (a, W.listOf its n) ∈ news) (hb : (b, W.listOf #[] n2) ∈ news) (hi : IntsAre its.toList ns) (hu : A.units + 64 < cLine)
    (h : Q (.bool (!decide (ns = []))) s) : wpAny (model prog w) A (compareOp .NotEq (.ref a) (.ref b)) Q E s := ke_ne_ints (kso_isList N ha rfl) (kso_isList N hb rfl) hi .nil hu h
theorem eq_nil {a b : Addr} {its : Array Value} {n n2 : Nat} {ns : List Int} (N : News h₀ L s.heap news) (ha : (a, W.listOf its n) ∈ news) (hb : (b, W.listOf #[] n2) ∈ news) (hi : IntsAre its.toList ns) (hu : A.units + 64 < cLine)
    (h : Q (.bool (decide (ns = []))) s) : wpAny (model prog w) A (compareOp .Eq (.ref a) (.ref b)) Q E s := ke_eq_ints (kso_isList N ha rfl) (kso_isList N hb rfl) hi .nil hu h
end
/-- tuples are none of the law's own objects -/
theorem cls_off {h₀ h : Heap} {L a : Addr} {o : Obj} {news T : List (Addr × Obj)} (N : News h₀ L h news) (hT : ∀ p ∈ T, p ∈ news ∧ p.2.cls = .type "tuple") (ha : (a, o) ∈ news) (hc : o.cls ≠ .type "tuple") : ∀ p ∈ T, p.1 ≠ a := by
  intro p hp e
  have h1 := (N _ (hT p hp).1).1
  have h2 := (N _ ha).1
  rw [e] at h1
  rw [h1] at h2
  exact hc (by have := (hT p hp).2; cases h2; exact this)
theorem dict_cls {K : Type} [DecidableEq K] {prog : Program} {w : World} {knd : KeyKind prog w K} {o : Obj} {kvs : List (K × Value)} (h : o.IsDictOf knd kvs) : o.cls ≠ .type "tuple" := by
  have e : o.cls = .type "dict" := by
    obtain ⟨es, ep, hc, _⟩ := h
    exact hc.1
  rw [e]
  decide
theorem rows_join {w : World} {X : Fx} {a : Ab} {g h' : Heap} {L fa : Addr} {l R R1 : List (Addr × Obj)} {rl : List (Pk × Addr)} {p0 now : Int} {t0 t2 tN tW tf tc tn : Tok} {le th rcv : Value} {ow ost oou ofa : Obj} {ens : Array Value} {ke : Nat}
    (N : News g L h' l) (hfa : (fa, ofa) ∈ l) (hm : ∀ p ∈ mains w X a p0 t0 t2 tN le tW tf tc th rcv ow ost oou ens ke, p ∈ l) (hR : ∀ p ∈ R, p ∈ l) (hR1 : ∀ p ∈ R1, p ∈ l)
    (hW : ow.IsDictOf (strKind PySem.Challenge.rw_pb0526_01.row.prog w) (wdK X.asp X.act now tn X.aou X.aen)) (hS : ost.IsDictOf (intKind PySem.Challenge.rw_pb0526_01.row.prog w) (sentOf a.ps)) (hU : oou.IsDictOf (intKind PySem.Challenge.rw_pb0526_01.row.prog w) (outOf a.ps))
    (hrow : ∀ e ∈ rl, RowIn R1 e) (hfaR : ∀ p ∈ R, p.1 ≠ fa) (hoff : Off X R) (hRfa : ∀ p ∈ R1, p.1 ≠ fa) :
    ∃ R2, News g L h' ((fa, ofa) :: (mains w X a p0 t0 t2 tN le tW tf tc th rcv ow ost oou ens ke ++ R2)) ∧ Off X R2 ∧ (∀ p ∈ R2, p.1 ≠ fa) ∧ (∀ p ∈ R, p ∈ R2) ∧ ∀ e ∈ rl, RowIn R2 e := by
  have hT : ∀ p ∈ R1.filter (fun p => decide (p.2.cls = .type "tuple")), p ∈ l ∧ p.2.cls = .type "tuple" := fun p hp => by
    obtain ⟨h1, h2⟩ := List.mem_filter.mp hp
    exact ⟨hR1 p h1, of_decide_eq_true h2⟩
  obtain ⟨q1, q2, q3, q4, q5, q6, q7, q8, q9⟩ := hoff
  have both : ∀ {x : Addr}, (∀ p ∈ R, p.1 ≠ x) → (∀ p ∈ R1.filter (fun p => decide (p.2.cls = .type "tuple")), p.1 ≠ x) → ∀ p ∈ R ++ R1.filter (fun p => decide (p.2.cls = .type "tuple")), p.1 ≠ x := fun h1 h2 => List.forall_mem_append.mpr ⟨h1, h2⟩
  refine ⟨R ++ R1.filter (fun p => decide (p.2.cls = .type "tuple")), fun p hp => N p ?_, ⟨both q1 (cls_off N hT (hm _ (.head _)) (by show Value.type "list" ≠ _; decide)), both q2 (cls_off N hT (hm _ (.tail _ (.head _))) (dict_cls hW)), both q3 (cls_off N hT (hm _ (.tail _ (.tail _ (.head _)))) (by intro h; cases h)),
    both q4 (cls_off N hT (hm _ (.tail _ (.tail _ (.tail _ (.head _))))) (by show Value.type "dict" ≠ _; decide)), both q5 (cls_off N hT (hm _ (.tail _ (.tail _ (.tail _ (.tail _ (.head _)))))) (dict_cls hS)), both q6 (cls_off N hT (hm _ (.tail _ (.tail _ (.tail _ (.tail _ (.tail _ (.head _))))))) (by intro h; cases h)),
    both q7 (cls_off N hT (hm _ (.tail _ (.tail _ (.tail _ (.tail _ (.tail _ (.tail _ (.head _)))))))) (by show Value.type "dict" ≠ _; decide)), both q8 (cls_off N hT (hm _ (.tail _ (.tail _ (.tail _ (.tail _ (.tail _ (.tail _ (.tail _ (.head _))))))))) (dict_cls hU)), both q9 (cls_off N hT (hm _ (.tail _ (.tail _ (.tail _ (.tail _ (.tail _ (.tail _ (.tail _ (.tail _ (.head _)))))))))) (by show Value.type "list" ≠ _; decide))⟩,
    both hfaR fun p hp => hRfa p (List.mem_filter.mp hp).1, fun p hp => List.mem_append_left _ hp, fun e he => ?_⟩
  · rcases List.mem_cons.mp hp with rfl | hp
    · exact hfa
    · rcases List.mem_append.mp hp with hp | hp
      · exact hm p hp
      · rcases List.mem_append.mp hp with hp | hp
        · exact hR p hp
        · exact (hT p hp).1
  · obtain ⟨tt, tz, h⟩ := hrow e he
    exact ⟨tt, tz, List.mem_append_right _ (List.mem_filter.mpr ⟨h, decide_eq_true rfl⟩)⟩
theorem News.sub {g h : Heap} {L : Addr} {l l' : List (Addr × Obj)} (N : News g L h l) (hs : ∀ p ∈ l', p ∈ l) : News g L h l' := fun p hp => N p (hs p hp)
theorem opt_cases {v : Value} (h : OptInt v) : v = .none ∨ ∃ i t, v = .int i t := by
  cases h with
  | none => exact .inl rfl
  | int i t => exact .inr ⟨i, t, rfl⟩
theorem key_in {rl : List (Pk × Addr)} {i : Nat} {k : Int} {u : Value} (h : (rl.map fun e => (e.1.n, Value.ref e.2))[i]? = some (k, u)) : k ∈ (rl.map (·.1)).map (·.n) := by
  have := List.mem_of_getElem? h
  obtain ⟨e, he, h1⟩ := List.mem_map.mp this
  cases h1
  rw [List.map_map]
  exact List.mem_map.mpr ⟨e, he, rfl⟩
theorem RowIn.at {R : List (Addr × Obj)} {e : Pk × Addr} {g : Heap} (h : RowIn R e) (k : ∀ x ∈ R, g.get? x.1 = some x.2) : RowAt g e :=
  let ⟨tt, tz, hm⟩ := h; ⟨tt, tz, k _ hm⟩
theorem handed_opt {v : Value} (h : OptInt v) : handedIn v = true := by cases h <;> rfl
local macro_rules | `(tactic| k_handed) => `(tactic| (refine handed_opt ?hnd; (case hnd => assumption)))
set_option hygiene false
local macro_rules | `(tactic| walk_at "call ref") => `(tactic| (k_here; (with_reducible show wpAny _ _ (call (Value.ref 323) _) _ _ _); refine Stop.out ?_))
local macro_rules | `(tactic| walk_at "call ref") => `(tactic| (k_here; (with_reducible show wpAny _ _ (call (Value.ref 35) _) _ _ _); refine Stop.out ?_))
set_option hygiene true

theorem spec_law_loses (w : World) (X : Fx) (a : Ab) (nw : List (Addr × Obj)) (h9 : Nine X) (hL : Lay w X a nw) (hO : Ok a) :
    Spec w 370 150 1800 [.ref X.aw] nw (fun _ => True) (fun v post => ∃ a', v = .bool true ∧ Lay w X a' post ∧ Ok a' ∧ a'.N = a.N ∧ a'.dr = a.dr ∧ a'.now = a.now ∧ (∀ x ∈ a.ends, x ∈ a'.ends) ∧ ∀ p ∈ a.ps, due a.la a.now p = true → p.n ∈ a'.ends) := by
  refine gen_P fun G9 kG9 => ?_
  rcases X with ⟨ap, asc, aw, asp, dsp, ast, act, dct, aou, aen, T, Tc, nm, ak, lt, rc, ls, lm, fu, un, wn, hn, ec, gn, c, tg⟩
  refine Lay.elim' hL fun p0 t0 t2 tN le tW tf tc th rcv tn ow ost oou ens ke R hp0 hp0' hth hrc hla hW hS hU hE hP r1 r2 r3 r4 r5 r6 r7 r8 r9 enw => ?_
  refine Nine.elim' h9 fun h01 h02 h03 h04 h05 h06 h07 h08 h12 h13 h14 h15 h16 h17 h18 h23 h24 h25 h26 h27 h28 h34 h35 h36 h37 h38 h45 h46 h47 h48 h56 h57 h58 h67 h68 h78 lw ls' lo' => ?_
  clear hL h9
  cases enw
  refine kG9 ?_
  clear kG9
  have hWs := hW
  dsimp only [mains, List.cons_append, List.nil_append]
  have hdr0 := hO.dr
  have hW0 := hO.W
  have hc0 := hO.cr
  have hc1 := hO.cu
  have hlp : a.ps.length ≤ 61 := by have := hO.len; have := hO.N; omega
  have hle : a.ends.length ≤ 61 := by have := hO.len; have := hO.N; omega
  have hNu := hO.N
  have hf0 := hO.f
  rw [hO.qs] at hU
  unfold Spec
  k_fill
  intro dp9z un9z gd9z cn9z cs9z a9z ccd9z cl9z outer9z A₀9z base9z h₀9z L9z m9z s9z Q9z E9z mean9z mg9z mb9z news9z rest9z hB9z hF9z hX9z hN9z hsub9z hrs9z hAp9z hRo9z hT9z hk9z hd9z hu9z hret9z
  first
  | (k_dflt (refine' fr_call hB9z hF9z hX9z hN9z hsub9z hrs9z hAp9z hT9z rfl rfl hk9z ?k6 ?k7 ?k8 ?k9 ?kB hret9z ?_ ?c2 ?c3 ?c4 ?c5; (case k6 => k_is); (case k7 => k_is); (case k8 => ktr_room); (case k9 => exact BindsTo.of_eq rfl); (case c5 => decide); (case kB => exact locs rfl); (case c2 => exact rfl); (case c3 => exact rfl); (case c4 => exact rfl))
     k_whole
     intro g9z' L9z' h9z' tk9z' st9z' hR9z' F9z' N9z' B9z' X9z' T9z'
     have hRo9z' := hRo9z g9z' st9z' hR9z'
     (try dsimp only at hRo9z')
     clear hB9z hF9z hX9z hN9z hsub9z hrs9z hAp9z hRo9z hT9z hret9z st9z' hR9z')
  | (k_dflt (refine' fr_callC hB9z hF9z hX9z hN9z hsub9z hrs9z hAp9z hT9z rfl rfl hk9z ?k6 ?k7 ?k8 ?k9 ?kB ?kD hret9z ?_ ?c2 ?c3 ?c4; (case k6 => k_is); (case k7 => k_is); (case k8 => ktr_room); (case k9 => exact BindsTo.of_eq rfl); (case kB => exact rfl); (case kD => decide +kernel); (case c2 => exact rfl); (case c3 => exact rfl); (case c4 => exact rfl))
     k_whole
     intro g9z' L9z' h9z' tk9z' cells9z' st9z' hR9z' F9z' N9z' Y9z' B9z' X9z' T9z' l19z
     have hRo9z' := hRo9z g9z' st9z' hR9z'
     (try dsimp only at hRo9z')
     clear hB9z hF9z hX9z hN9z hsub9z hrs9z hAp9z hRo9z hT9z hret9z st9z' hR9z'
     (try k_lt l19z)
     k_cells Y9z'
     (try dsimp only [List.cons_append, List.nil_append] at N9z'))
  (try dsimp only)
  (try k_fold)
  refine gen_Q fun Q0 hQ0 => ?_
  (repeat' (first | (k_unfold; (try dsimp only)) | (k_end; wrow_close) | (with_reducible first | (k_here; (show wpAny _ _ (call (Value.ref 276) _) _ _ _); k_dflt (refine' Spec.useG (spec_take _ _ _ _ _ _ _ _ _ _ _ _ _ _ _ _ _ _ _ _ _ _ _ _ _ _ ?tD ?tl ?ts ?tnd ?ti ?tm ?t6 ?t1 ?t2 ?t3 ?t4 ?t5 ?t7) ?zB ?zF ?zX ?zN ?zP ?zA ?zR ?zT ?zk ?zd ?zu ?_); top_raise; (case zP => ktr_rel); (case tD | tl => assumption); (case ts => omega); (case ti | tnd | tm | t6 => assumption); (case t1 | t2 | t3 | t4 | t5 | t7 => k_ne); (case zA => ktr_unf); (case zR => k_dflt (intro g1 _ hr9; exact fun p hp => PkIn.at (hP2 p hp) fun x hx => hr9 x (by (repeat (first | exact hx | refine List.Mem.tail _ ?_))))); top_raise0; top_args; k_dflt (obtain ⟨lf', its', kf', os', ns', e1', hits', hperm', hS', e2'⟩ := P'; subst e1'; subst e2'; refine kG9 ?_; clear kG9); simp only [List.cons_append, List.nil_append] at N'; have N' := News.sub N' (fun p hp => List.Mem.tail _ hp); clear A'; top_strB) | (k_here; (show wpAny _ _ (call (Value.ref 138) _) _ _ _); k_dflt (refine' Spec.useG (spec_lost_any _ _ _ _ _ _ _ _ _ _ _ _ _ _ _ _ _ _ ?lv ?lth ?lrc ?lne ?lW ?lW2 ?lc ?lc2) ?zB ?zF ?zX ?zN ?zP ?zA ?zR ?zT ?zk ?zd ?zu ?_); top_raise; (case zP => ktr_rel); (case lv | lth | lrc => assumption); (case lne => k_ne); (case lW | lW2 | lc | lc2 => omega); top_raiseB; top_args; k_dflt (obtain ⟨Wd', cr', ta', tb', tc'', th', rcv', e1', hth', hrc', hW1', hW2', hW3', hc1', hc2', e2'⟩ := P'; top_argsB)) | (k_here; (show wpAny _ _ (call (Value.ref 42) _) _ _ _); k_dflt (refine' Spec.useG (spec_newest_time _ _ _ _ _ _ _ _ ?fs ?fD ?fl ?fh ?fm ?fn) ?zB ?zF ?zX ?zN ?zP ?zA ?zR ?zT ?zk ?zd ?zu ?_); top_raise; (case zP => ktr_rel); (case fD | fs | fl | fh | fm => assumption); (case fn => k_ne); (case zA => ktr_unf); (case zR => k_dflt (intro g1 _ hr9 e9 he9; exact RowIn.at (hrow e9 he9) fun x hx => hr9 x (by (repeat (first | exact hx | refine List.Mem.tail _ ?_))))); top_raise0; top_args; k_dflt (obtain ⟨hnv, e2'⟩ := P'; subst e2'; refine kG9 ?_; clear kG9); clear A'; top_strB) | (k_here; (show wpAny _ _ (call (Value.ref 47) _) _ _ _); k_dflt (refine' Spec.useG (spec_flight_size _ _ _ _ _ _ _ _ ?fs ?fi ?fD ?fl ?fh ?fm ?fn) ?zB ?zF ?zX ?zN ?zP ?zA ?zR ?zT ?zk ?zd ?zu ?_); top_raise; (case zP => ktr_rel); (case fD | fs | fi | fl | fh | fm => assumption); (case fn => k_ne); (case zA => ktr_unf); (case zR => k_dflt (intro g1 _ hr9 e9 he9; exact RowIn.at (hrow e9 he9) fun x hx => hr9 x (by (repeat (first | exact hx | refine List.Mem.tail _ ?_))))); top_raise0; top_args; k_dflt (obtain ⟨⟨tfs, e1'⟩, e2'⟩ := P'; top_argsB)) | (k_here; (show wpAny _ _ (call (Value.builtin "list.extend") [Value.ref _, Value.ref _]) _ _ _); k_dflt (refine' extend_list ?exq1 ?exq2 ?exq3 ?exq4 ?exq5 ?exq6 ?exq7 ?_; (case exq1 => k_asm); (case exq2 => k_asm); (case exq3 => exact List.Mem.tail _ (List.Mem.tail _ (List.Mem.tail _ (List.Mem.head _)))); (case exq7 => k_upd); (case exq4 => first | assumption | exact hs0 (by assumption)); (case exq5 => omega); (case exq6 => omega)); intro h' F' N') | (k_here; (show wpAny _ _ (call (Value.builtin "dict.pop") [Value.ref _, Value.int _ _]) _ _ _); k_dflt (refine' kob_pop (knd := PySem.intKind _ _) (more := []) ?F ?N ?U ?d (intKind_is _ _ _ _) (.inl rfl) (by rfl) (PySem.F.args_dict_pop_2 _ _) ?l ?z ?_; (case F => k_asm); (case N => k_asm); (case U => k_updF); (case d => assumption); (case l => assumption); (case z => (rw [sizeLine_eq]; assumption))); intro h' o' F' N' hd'; (try dsimp only at N')) | (k_here; (show wpAny _ _ (compareOp CmpOp.Eq (Value.ref _) (Value.ref _)) _ _ _); k_dflt (refine' eq_nil ?nnN ?nna ?nnb ?nni ?nnu ?_; (case nnN => k_asm); (case nna => k_mem); (case nnb => k_mem); (case nni => assumption); (case nnu => ktr_units))) | (k_here; (show wpAny _ _ (compareOp CmpOp.NotEq (Value.ref _) (Value.ref _)) _ _ _); k_dflt (refine' ne_nil ?nnN ?nna ?nnb ?nni ?nnu ?_; (case nnN => k_asm); (case nna => k_mem); (case nnb => k_mem); (case nni => assumption); (case nnu => ktr_units))) | (k_here; (show wpAny _ _ (subscriptTail _ _ (Value.ref _) (Value.str _ _)) _ _ _); k_dflt (refine' kda_item (knd := PySem.strKind _ _) ?N ?p ?d (strKind_is _ _ _ _) ?l ?_; (case N => k_asm); (case p => k_mem); (case d => assumption); (case l => exact rfl))) | (k_here; (show wpAny _ _ (compareOp CmpOp.In (Value.int _ _) (Value.ref _)) _ _ _); k_dflt (refine' in_ints ?iiN ?iim ?iii ?iib ?_; (case iiN => k_asm); (case iim => k_mem); (case iii => assumption); (case iib => assumption)))) | walk1 | dsimp only | (leave1; try dsimp only) | fail "no step"))
  all_goals (try dsimp only)
  show wpAny _ _ (call (Value.ref 323) _) _ _ _
  refine' Spec.use (spec_sent_rows _ _ _ _ _ _ _ _ _ _ _ _ _ _ _ _ _ _ _ _ _ _ ?rD ?rl ?rs ?r1 ?r2 ?r5) ?zB ?zF ?zX ?zN ?zP ?zA ?zR ?zT ?zk ?zd ?zu ?_
  case zB => k_asm
  case zF => k_asm
  case zX => k_asm
  case zN => k_asm
  case zP => ktr_rel
  case rD => assumption
  case rl => assumption
  case rs => omega
  case r1 => k_ne
  case r2 => k_ne
  case r5 => k_ne
  case zA => ktr_unf
  case zR => (intro g1 _ hr9; exact fun p hp => PkIn.at (hP p (by first | exact hp | (rw [hO.al]; exact hp))) fun x hx => hr9 x (by (repeat (first | exact hx | refine List.Mem.tail _ ?_))))
  case zT => k_asm
  case zk => first | exact rfl | assumption
  case zd => ktr_room
  case zu => ktr_units
  intro v' p' h' tk' F' N' A' P'
  refine gen_P fun G9 kG9 => ?_
  obtain ⟨fa, ofa, R1, e1', ⟨rl, hrl, hrow1, hRfa, hof⟩, ⟨hfa1, hfa2, hfa3, lfa⟩, e2'⟩ := P'
  subst e1'
  subst e2'
  obtain ⟨R2, N2, hoff2, hRfa2, hsub2, hrow⟩ := rows_join (X := (⟨ap, asc, aw, asp, dsp, ast, act, dct, aou, aen, T, Tc, nm, ak, lt, rc, ls, lm, fu, un, wn, hn, ec, gn, c, tg⟩ : Fx)) (a := a) (p0 := p0) (t0 := t0) (t2 := t2) (tN := tN) (le := le) (tW := tW) (tf := tf) (tc := tc) (th := th) (rcv := rcv) (ow := ow) (ost := ost) (oou := oou) (ens := ens) (ke := ke) (R := R) (R1 := R1) (rl := rl) (fa := fa) (ofa := ofa) N' (.head _)
    (by intro p hp; simp only [mains, List.mem_cons, List.not_mem_nil, or_false] at hp; rcases hp with rfl | rfl | rfl | rfl | rfl | rfl | rfl | rfl | rfl <;> (repeat (first | exact List.Mem.head _ | refine List.Mem.tail _ ?_ | refine List.mem_append_right _ ?_)))
    (fun p hp => List.mem_append_right _ (by repeat (first | exact hp | refine List.Mem.tail _ ?_))) (fun p hp => List.mem_append_left _ (.tail _ (.tail _ (.tail _ (.tail _ hp))))) hW hS hU hrow1 (fun p hp => A' _ (.head _) p (by (repeat (first | exact hp | refine List.Mem.tail _ ?_)))) ⟨r1, r2, r3, r4, r5, r6, r7, r8, r9⟩ hRfa
  have hfm : ∀ p ∈ mains w (⟨ap, asc, aw, asp, dsp, ast, act, dct, aou, aen, T, Tc, nm, ak, lt, rc, ls, lm, fu, un, wn, hn, ec, gn, c, tg⟩ : Fx) a p0 t0 t2 tN le tW tf tc th rcv ow ost oou ens ke, p.1 ≠ fa := by
    simp only [mains, all_cons, all_nil]
    exact ⟨A' _ (.head _) (ap, _) (by k_mem), A' _ (.head _) (aw, _) (by k_mem), hfa1.symm, hfa2.symm, hfa3.symm, A' _ (.head _) (act, _) (by k_mem), A' _ (.head _) (dct, _) (by k_mem), A' _ (.head _) (aou, _) (by k_mem), A' _ (.head _) (aen, _) (by k_mem), trivial⟩
  clear N' A' hRfa hrow1
  simp only [mains, all_cons, all_nil, and_true] at hfm
  obtain ⟨f1, f2, f3, f4, f5, f6, f7, f8, f9⟩ := hfm
  obtain ⟨r1, r2, r3, r4, r5, r6, r7, r8, r9⟩ := hoff2
  refine kG9 ?_
  clear kG9
  dsimp only at r1 r2 r3 r4 r5 r6 r7 r8 r9
  dsimp only [mains, List.cons_append, List.nil_append] at N2
  have hrl64 : rl.length < 64 := by have := congrArg List.length hrl; rw [List.length_map] at this; omega
  dsimp only
  (repeat' (first | (k_unfold; (try dsimp only)) | (k_end; wrow_close) | (with_reducible first | (k_here; (show wpAny _ _ (call (Value.ref 276) _) _ _ _); k_dflt (refine' Spec.useG (spec_take _ _ _ _ _ _ _ _ _ _ _ _ _ _ _ _ _ _ _ _ _ _ _ _ _ _ ?tD ?tl ?ts ?tnd ?ti ?tm ?t6 ?t1 ?t2 ?t3 ?t4 ?t5 ?t7) ?zB ?zF ?zX ?zN ?zP ?zA ?zR ?zT ?zk ?zd ?zu ?_); top_raise; (case zP => ktr_rel); (case tD | tl => assumption); (case ts => omega); (case ti | tnd | tm | t6 => assumption); (case t1 | t2 | t3 | t4 | t5 | t7 => k_ne); (case zA => ktr_unf); (case zR => k_dflt (intro g1 _ hr9; exact fun p hp => PkIn.at (hP2 p hp) fun x hx => hr9 x (by (repeat (first | exact hx | refine List.Mem.tail _ ?_))))); top_raise0; top_args; k_dflt (obtain ⟨lf', its', kf', os', ns', e1', hits', hperm', hS', e2'⟩ := P'; subst e1'; subst e2'; refine kG9 ?_; clear kG9); simp only [List.cons_append, List.nil_append] at N'; have N' := News.sub N' (fun p hp => List.Mem.tail _ hp); clear A'; top_strB) | (k_here; (show wpAny _ _ (call (Value.ref 138) _) _ _ _); k_dflt (refine' Spec.useG (spec_lost_any _ _ _ _ _ _ _ _ _ _ _ _ _ _ _ _ _ _ ?lv ?lth ?lrc ?lne ?lW ?lW2 ?lc ?lc2) ?zB ?zF ?zX ?zN ?zP ?zA ?zR ?zT ?zk ?zd ?zu ?_); top_raise; (case zP => ktr_rel); (case lv | lth | lrc => assumption); (case lne => k_ne); (case lW | lW2 | lc | lc2 => omega); top_raiseB; top_args; k_dflt (obtain ⟨Wd', cr', ta', tb', tc'', th', rcv', e1', hth', hrc', hW1', hW2', hW3', hc1', hc2', e2'⟩ := P'; top_argsB)) | (k_here; (show wpAny _ _ (call (Value.ref 42) _) _ _ _); k_dflt (refine' Spec.useG (spec_newest_time _ _ _ _ _ _ _ _ ?fs ?fD ?fl ?fh ?fm ?fn) ?zB ?zF ?zX ?zN ?zP ?zA ?zR ?zT ?zk ?zd ?zu ?_); top_raise; (case zP => ktr_rel); (case fD | fs | fl | fh | fm => assumption); (case fn => k_ne); (case zA => ktr_unf); (case zR => k_dflt (intro g1 _ hr9 e9 he9; exact RowIn.at (hrow e9 he9) fun x hx => hr9 x (by (repeat (first | exact hx | refine List.Mem.tail _ ?_))))); top_raise0; top_args; k_dflt (obtain ⟨hnv, e2'⟩ := P'; subst e2'; refine kG9 ?_; clear kG9); clear A'; top_strB) | (k_here; (show wpAny _ _ (call (Value.ref 47) _) _ _ _); k_dflt (refine' Spec.useG (spec_flight_size _ _ _ _ _ _ _ _ ?fs ?fi ?fD ?fl ?fh ?fm ?fn) ?zB ?zF ?zX ?zN ?zP ?zA ?zR ?zT ?zk ?zd ?zu ?_); top_raise; (case zP => ktr_rel); (case fD | fs | fi | fl | fh | fm => assumption); (case fn => k_ne); (case zA => ktr_unf); (case zR => k_dflt (intro g1 _ hr9 e9 he9; exact RowIn.at (hrow e9 he9) fun x hx => hr9 x (by (repeat (first | exact hx | refine List.Mem.tail _ ?_))))); top_raise0; top_args; k_dflt (obtain ⟨⟨tfs, e1'⟩, e2'⟩ := P'; top_argsB)) | (k_here; (show wpAny _ _ (call (Value.builtin "list.extend") [Value.ref _, Value.ref _]) _ _ _); k_dflt (refine' extend_list ?exq1 ?exq2 ?exq3 ?exq4 ?exq5 ?exq6 ?exq7 ?_; (case exq1 => k_asm); (case exq2 => k_asm); (case exq3 => exact List.Mem.tail _ (List.Mem.tail _ (List.Mem.tail _ (List.Mem.head _)))); (case exq7 => k_upd); (case exq4 => first | assumption | exact hs0 (by assumption)); (case exq5 => omega); (case exq6 => omega)); intro h' F' N') | (k_here; (show wpAny _ _ (call (Value.builtin "dict.pop") [Value.ref _, Value.int _ _]) _ _ _); k_dflt (refine' kob_pop (knd := PySem.intKind _ _) (more := []) ?F ?N ?U ?d (intKind_is _ _ _ _) (.inl rfl) (by rfl) (PySem.F.args_dict_pop_2 _ _) ?l ?z ?_; (case F => k_asm); (case N => k_asm); (case U => k_updF); (case d => assumption); (case l => assumption); (case z => (rw [sizeLine_eq]; assumption))); intro h' o' F' N' hd'; (try dsimp only at N')) | (k_here; (show wpAny _ _ (compareOp CmpOp.Eq (Value.ref _) (Value.ref _)) _ _ _); k_dflt (refine' eq_nil ?nnN ?nna ?nnb ?nni ?nnu ?_; (case nnN => k_asm); (case nna => k_mem); (case nnb => k_mem); (case nni => assumption); (case nnu => ktr_units))) | (k_here; (show wpAny _ _ (compareOp CmpOp.NotEq (Value.ref _) (Value.ref _)) _ _ _); k_dflt (refine' ne_nil ?nnN ?nna ?nnb ?nni ?nnu ?_; (case nnN => k_asm); (case nna => k_mem); (case nnb => k_mem); (case nni => assumption); (case nnu => ktr_units))) | (k_here; (show wpAny _ _ (subscriptTail _ _ (Value.ref _) (Value.str _ _)) _ _ _); k_dflt (refine' kda_item (knd := PySem.strKind _ _) ?N ?p ?d (strKind_is _ _ _ _) ?l ?_; (case N => k_asm); (case p => k_mem); (case d => assumption); (case l => exact rfl))) | (k_here; (show wpAny _ _ (compareOp CmpOp.In (Value.int _ _) (Value.ref _)) _ _ _); k_dflt (refine' in_ints ?iiN ?iim ?iii ?iib ?_; (case iiN => k_asm); (case iim => k_mem); (case iii => assumption); (case iib => assumption)))) | walk1 | dsimp only | (leave1; try dsimp only) | fail "no step"))
  all_goals (try dsimp only)
  show wpAny _ _ (call (Value.ref 35) _) _ _ _
  refine' Spec.use (spec_detect_lost _ _ _ _ _ _ _ _ ?dla ?dls ?dlD ?dlo) ?zB ?zF ?zX ?zN ?zP ?zA ?zR ?zT ?zk ?zd ?zu ?_
  case zB => k_asm
  case zF => k_asm
  case zX => k_asm
  case zN => k_asm
  case zP => ktr_rel
  case dlD => exact hof
  case dlo => exact lfa
  case dls => exact hrl64
  case dla => assumption
  case zA => ktr_unf
  case zR => (intro g1 _ hr9 e9 he9; obtain ⟨tt9, tz9, hm9⟩ := hrow e9 he9; exact ⟨tt9, tz9, hr9 (e9.2, tupO [.int e9.1.t tt9, .int e9.1.z tz9, .bool true, .bool true]) (by (repeat (first | exact hm9 | refine List.Mem.tail _ ?_)))⟩)
  case zT => k_asm
  case zk => first | exact rfl | assumption
  case zd => ktr_room
  case zu => ktr_units
  intro v' p' h' tk' F' N' A' P'
  refine gen_P fun G9 kG9 => ?_
  obtain ⟨tp, lo, its, kl, lv, li, e1', hli, hlis, hlin, hlim, ⟨hl1, hl2⟩, e2'⟩ := P'
  subst e1'
  subst e2'
  have q1 : (∀ p ∈ R2, p.1 ≠ lo) ∧ ap ≠ lo ∧ aw ≠ lo ∧ asp ≠ lo ∧ dsp ≠ lo ∧ ast ≠ lo ∧ act ≠ lo ∧ dct ≠ lo ∧ aou ≠ lo ∧ aen ≠ lo :=
    ⟨fun p hp => A' _ (.tail _ (.head _)) p (by (repeat (first | exact hp | refine List.Mem.tail _ ?_))), A' _ (.tail _ (.head _)) (ap, _) (by k_mem), A' _ (.tail _ (.head _)) (aw, _) (by k_mem), A' _ (.tail _ (.head _)) (asp, _) (by k_mem), A' _ (.tail _ (.head _)) (dsp, _) (by k_mem), A' _ (.tail _ (.head _)) (ast, _) (by k_mem), A' _ (.tail _ (.head _)) (act, _) (by k_mem), A' _ (.tail _ (.head _)) (dct, _) (by k_mem), A' _ (.tail _ (.head _)) (aou, _) (by k_mem), A' _ (.tail _ (.head _)) (aen, _) (by k_mem)⟩
  obtain ⟨u0, u1, u2, u3, u4, u5, u6, u7, u8, u9⟩ := q1
  refine kG9 ?_
  clear kG9
  have ulf : lo ≠ fa := by k_ne
  rw [hrl] at hlim
  clear A'
  simp only [List.cons_append, List.nil_append] at N'
  dsimp only
  (repeat' (first | (k_unfold; (try dsimp only)) | (k_end; wrow_close) | (with_reducible first | (k_here; (show wpAny _ _ (call (Value.ref 276) _) _ _ _); k_dflt (refine' Spec.useG (spec_take _ _ _ _ _ _ _ _ _ _ _ _ _ _ _ _ _ _ _ _ _ _ _ _ _ _ ?tD ?tl ?ts ?tnd ?ti ?tm ?t6 ?t1 ?t2 ?t3 ?t4 ?t5 ?t7) ?zB ?zF ?zX ?zN ?zP ?zA ?zR ?zT ?zk ?zd ?zu ?_); top_raise; (case zP => ktr_rel); (case tD | tl => assumption); (case ts => omega); (case ti | tnd | tm | t6 => assumption); (case t1 | t2 | t3 | t4 | t5 | t7 => k_ne); (case zA => ktr_unf); (case zR => k_dflt (intro g1 _ hr9; exact fun p hp => PkIn.at (hP2 p hp) fun x hx => hr9 x (by (repeat (first | exact hx | refine List.Mem.tail _ ?_))))); top_raise0; top_args; k_dflt (obtain ⟨lf', its', kf', os', ns', e1', hits', hperm', hS', e2'⟩ := P'; subst e1'; subst e2'; refine kG9 ?_; clear kG9); simp only [List.cons_append, List.nil_append] at N'; have N' := News.sub N' (fun p hp => List.Mem.tail _ hp); clear A'; top_strB) | (k_here; (show wpAny _ _ (call (Value.ref 138) _) _ _ _); k_dflt (refine' Spec.useG (spec_lost_any _ _ _ _ _ _ _ _ _ _ _ _ _ _ _ _ _ _ ?lv ?lth ?lrc ?lne ?lW ?lW2 ?lc ?lc2) ?zB ?zF ?zX ?zN ?zP ?zA ?zR ?zT ?zk ?zd ?zu ?_); top_raise; (case zP => ktr_rel); (case lv | lth | lrc => assumption); (case lne => k_ne); (case lW | lW2 | lc | lc2 => omega); top_raiseB; top_args; k_dflt (obtain ⟨Wd', cr', ta', tb', tc'', th', rcv', e1', hth', hrc', hW1', hW2', hW3', hc1', hc2', e2'⟩ := P'; top_argsB)) | (k_here; (show wpAny _ _ (call (Value.ref 42) _) _ _ _); k_dflt (refine' Spec.useG (spec_newest_time _ _ _ _ _ _ _ _ ?fs ?fD ?fl ?fh ?fm ?fn) ?zB ?zF ?zX ?zN ?zP ?zA ?zR ?zT ?zk ?zd ?zu ?_); top_raise; (case zP => ktr_rel); (case fD | fs | fl | fh | fm => assumption); (case fn => k_ne); (case zA => ktr_unf); (case zR => k_dflt (intro g1 _ hr9 e9 he9; exact RowIn.at (hrow e9 he9) fun x hx => hr9 x (by (repeat (first | exact hx | refine List.Mem.tail _ ?_))))); top_raise0; top_args; k_dflt (obtain ⟨hnv, e2'⟩ := P'; subst e2'; refine kG9 ?_; clear kG9); clear A'; top_strB) | (k_here; (show wpAny _ _ (call (Value.ref 47) _) _ _ _); k_dflt (refine' Spec.useG (spec_flight_size _ _ _ _ _ _ _ _ ?fs ?fi ?fD ?fl ?fh ?fm ?fn) ?zB ?zF ?zX ?zN ?zP ?zA ?zR ?zT ?zk ?zd ?zu ?_); top_raise; (case zP => ktr_rel); (case fD | fs | fi | fl | fh | fm => assumption); (case fn => k_ne); (case zA => ktr_unf); (case zR => k_dflt (intro g1 _ hr9 e9 he9; exact RowIn.at (hrow e9 he9) fun x hx => hr9 x (by (repeat (first | exact hx | refine List.Mem.tail _ ?_))))); top_raise0; top_args; k_dflt (obtain ⟨⟨tfs, e1'⟩, e2'⟩ := P'; top_argsB)) | (k_here; (show wpAny _ _ (call (Value.builtin "list.extend") [Value.ref _, Value.ref _]) _ _ _); k_dflt (refine' extend_list ?exq1 ?exq2 ?exq3 ?exq4 ?exq5 ?exq6 ?exq7 ?_; (case exq1 => k_asm); (case exq2 => k_asm); (case exq3 => exact List.Mem.tail _ (List.Mem.tail _ (List.Mem.tail _ (List.Mem.head _)))); (case exq7 => k_upd); (case exq4 => first | assumption | exact hs0 (by assumption)); (case exq5 => omega); (case exq6 => omega)); intro h' F' N') | (k_here; (show wpAny _ _ (call (Value.builtin "dict.pop") [Value.ref _, Value.int _ _]) _ _ _); k_dflt (refine' kob_pop (knd := PySem.intKind _ _) (more := []) ?F ?N ?U ?d (intKind_is _ _ _ _) (.inl rfl) (by rfl) (PySem.F.args_dict_pop_2 _ _) ?l ?z ?_; (case F => k_asm); (case N => k_asm); (case U => k_updF); (case d => assumption); (case l => assumption); (case z => (rw [sizeLine_eq]; assumption))); intro h' o' F' N' hd'; (try dsimp only at N')) | (k_here; (show wpAny _ _ (compareOp CmpOp.Eq (Value.ref _) (Value.ref _)) _ _ _); k_dflt (refine' eq_nil ?nnN ?nna ?nnb ?nni ?nnu ?_; (case nnN => k_asm); (case nna => k_mem); (case nnb => k_mem); (case nni => assumption); (case nnu => ktr_units))) | (k_here; (show wpAny _ _ (compareOp CmpOp.NotEq (Value.ref _) (Value.ref _)) _ _ _); k_dflt (refine' ne_nil ?nnN ?nna ?nnb ?nni ?nnu ?_; (case nnN => k_asm); (case nna => k_mem); (case nnb => k_mem); (case nni => assumption); (case nnu => ktr_units))) | (k_here; (show wpAny _ _ (subscriptTail _ _ (Value.ref _) (Value.str _ _)) _ _ _); k_dflt (refine' kda_item (knd := PySem.strKind _ _) ?N ?p ?d (strKind_is _ _ _ _) ?l ?_; (case N => k_asm); (case p => k_mem); (case d => assumption); (case l => exact rfl))) | (k_here; (show wpAny _ _ (compareOp CmpOp.In (Value.int _ _) (Value.ref _)) _ _ _); k_dflt (refine' in_ints ?iiN ?iim ?iii ?iib ?_; (case iiN => k_asm); (case iim => k_mem); (case iii => assumption); (case iib => assumption)))) | walk1 | dsimp only | (leave1; try dsimp only) | fail "no step"))
  all_goals (try dsimp only)
  have N5 := News.sub (l' := (lo, W.listOf its kl) :: (fa, ofa) :: (mains w (⟨ap, asc, aw, asp, dsp, ast, act, dct, aou, aen, T, Tc, nm, ak, lt, rc, ls, lm, fu, un, wn, hn, ec, gn, c, tg⟩ : Fx) a p0 t0 t2 tN le tW tf tc th rcv ow ost oou ens ke ++ R2)) (by k_asm) (by simp only [mains, List.cons_append, List.nil_append]; tb_rel)
  refine for_dict' (knd := PySem.intKind PySem.Challenge.rw_pb0526_01.row.prog _) rfl (by k_asm) N5 (.tail _ (.head _)) hof lfa [Str.ofString "number", Str.ofString "is_late", Str.ofString "is_due"] (by decide)
    (fun i m₁ nw => nw = (lo, W.listOf its kl) :: (fa, ofa) :: (mains w (⟨ap, asc, aw, asp, dsp, ast, act, dct, aou, aen, T, Tc, nm, ak, lt, rc, ls, lm, fu, un, wn, hn, ec, gn, c, tg⟩ : Fx) a p0 t0 t2 tN le tW tf tc th rcv ow ost oou ens ke ++ R2)) rfl ?step ?done
  case step =>
    intro i v k u m₁ nw I oI h tk hk hv hJ hdm hnI F N
    refine gen_P fun G9 kG9 => ?_
    subst hJ
    dsimp only [envOf] at F N
    obtain ⟨tkk, rfl⟩ := PySem.Value.isInt_shape hv
    have hkin := key_in hk
    obtain ⟨⟨⟨en, et, ez, ea, ed, eu⟩, er⟩, he, hen, hval, hof1⟩ := row_of hof hkin
    dsimp only at hen hval hof1
    subst hen
    rw [hrl] at hof1
    have hdue : decide (en ∈ li) = due a.la a.now ⟨en, et, ez, ea, ed, eu⟩ := by
      rw [Bool.eq_iff_iff, decide_eq_true_iff, hlim, ← hrl]
      unfold dueN
      rw [hrl, hof1]
      exact ⟨fun h => h.2, fun h => ⟨by rw [← hrl]; exact hkin, h⟩⟩
    obtain ⟨tt, tz, hm⟩ := hrow _ he
    refine kG9 ?_
    clear kG9
    dsimp only at hm
    dsimp only [mains, List.cons_append, List.nil_append] at N hnI ⊢
    simp only [all_cons] at hnI
    refine gen_P fun G9 kG9 => ?_
    obtain ⟨n1, n2, n3, n4, n5, n6, n7, n8, n9, n10, n11, n12⟩ := hnI
    refine kG9 ?_
    clear kG9
    have N9 := News.sub (l' := (er, tupO [.int et tt, .int ez tz, .bool true, .bool true]) :: (I, oI) :: (lo, W.listOf its kl) :: (fa, ofa) :: (mains w (⟨ap, asc, aw, asp, dsp, ast, act, dct, aou, aen, T, Tc, nm, ak, lt, rc, ls, lm, fu, un, wn, hn, ec, gn, c, tg⟩ : Fx) a p0 t0 t2 tN le tW tf tc th rcv ow ost oou ens ke ++ R2)) N
      (sub_cons (by (repeat (first | exact hm | refine List.Mem.tail _ ?_))) (by simp only [mains, List.cons_append, List.nil_append]; tb_rel))
    dsimp only [mains, List.cons_append, List.nil_append] at N9
    clear N
    rcases opt_cases hla with hl | ⟨lv', tlv, hl⟩
    · rw [hl] at N9 hdue
      (repeat' (first | (k_unfold; (try dsimp only)) | (k_end; wrow_close) | (with_reducible first | (k_here; (show wpAny _ _ (call (Value.ref 276) _) _ _ _); k_dflt (refine' Spec.useG (spec_take _ _ _ _ _ _ _ _ _ _ _ _ _ _ _ _ _ _ _ _ _ _ _ _ _ _ ?tD ?tl ?ts ?tnd ?ti ?tm ?t6 ?t1 ?t2 ?t3 ?t4 ?t5 ?t7) ?zB ?zF ?zX ?zN ?zP ?zA ?zR ?zT ?zk ?zd ?zu ?_); top_raise; (case zP => ktr_rel); (case tD | tl => assumption); (case ts => omega); (case ti | tnd | tm | t6 => assumption); (case t1 | t2 | t3 | t4 | t5 | t7 => k_ne); (case zA => ktr_unf); (case zR => k_dflt (intro g1 _ hr9; exact fun p hp => PkIn.at (hP2 p hp) fun x hx => hr9 x (by (repeat (first | exact hx | refine List.Mem.tail _ ?_))))); top_raise0; top_args; k_dflt (obtain ⟨lf', its', kf', os', ns', e1', hits', hperm', hS', e2'⟩ := P'; subst e1'; subst e2'; refine kG9 ?_; clear kG9); simp only [List.cons_append, List.nil_append] at N'; have N' := News.sub N' (fun p hp => List.Mem.tail _ hp); clear A'; top_strB) | (k_here; (show wpAny _ _ (call (Value.ref 138) _) _ _ _); k_dflt (refine' Spec.useG (spec_lost_any _ _ _ _ _ _ _ _ _ _ _ _ _ _ _ _ _ _ ?lv ?lth ?lrc ?lne ?lW ?lW2 ?lc ?lc2) ?zB ?zF ?zX ?zN ?zP ?zA ?zR ?zT ?zk ?zd ?zu ?_); top_raise; (case zP => ktr_rel); (case lv | lth | lrc => assumption); (case lne => k_ne); (case lW | lW2 | lc | lc2 => omega); top_raiseB; top_args; k_dflt (obtain ⟨Wd', cr', ta', tb', tc'', th', rcv', e1', hth', hrc', hW1', hW2', hW3', hc1', hc2', e2'⟩ := P'; top_argsB)) | (k_here; (show wpAny _ _ (call (Value.ref 42) _) _ _ _); k_dflt (refine' Spec.useG (spec_newest_time _ _ _ _ _ _ _ _ ?fs ?fD ?fl ?fh ?fm ?fn) ?zB ?zF ?zX ?zN ?zP ?zA ?zR ?zT ?zk ?zd ?zu ?_); top_raise; (case zP => ktr_rel); (case fD | fs | fl | fh | fm => assumption); (case fn => k_ne); (case zA => ktr_unf); (case zR => k_dflt (intro g1 _ hr9 e9 he9; exact RowIn.at (hrow e9 he9) fun x hx => hr9 x (by (repeat (first | exact hx | refine List.Mem.tail _ ?_))))); top_raise0; top_args; k_dflt (obtain ⟨hnv, e2'⟩ := P'; subst e2'; refine kG9 ?_; clear kG9); clear A'; top_strB) | (k_here; (show wpAny _ _ (call (Value.ref 47) _) _ _ _); k_dflt (refine' Spec.useG (spec_flight_size _ _ _ _ _ _ _ _ ?fs ?fi ?fD ?fl ?fh ?fm ?fn) ?zB ?zF ?zX ?zN ?zP ?zA ?zR ?zT ?zk ?zd ?zu ?_); top_raise; (case zP => ktr_rel); (case fD | fs | fi | fl | fh | fm => assumption); (case fn => k_ne); (case zA => ktr_unf); (case zR => k_dflt (intro g1 _ hr9 e9 he9; exact RowIn.at (hrow e9 he9) fun x hx => hr9 x (by (repeat (first | exact hx | refine List.Mem.tail _ ?_))))); top_raise0; top_args; k_dflt (obtain ⟨⟨tfs, e1'⟩, e2'⟩ := P'; top_argsB)) | (k_here; (show wpAny _ _ (call (Value.builtin "list.extend") [Value.ref _, Value.ref _]) _ _ _); k_dflt (refine' extend_list ?exq1 ?exq2 ?exq3 ?exq4 ?exq5 ?exq6 ?exq7 ?_; (case exq1 => k_asm); (case exq2 => k_asm); (case exq3 => exact List.Mem.tail _ (List.Mem.tail _ (List.Mem.tail _ (List.Mem.head _)))); (case exq7 => k_upd); (case exq4 => first | assumption | exact hs0 (by assumption)); (case exq5 => omega); (case exq6 => omega)); intro h' F' N') | (k_here; (show wpAny _ _ (call (Value.builtin "dict.pop") [Value.ref _, Value.int _ _]) _ _ _); k_dflt (refine' kob_pop (knd := PySem.intKind _ _) (more := []) ?F ?N ?U ?d (intKind_is _ _ _ _) (.inl rfl) (by rfl) (PySem.F.args_dict_pop_2 _ _) ?l ?z ?_; (case F => k_asm); (case N => k_asm); (case U => k_updF); (case d => assumption); (case l => assumption); (case z => (rw [sizeLine_eq]; assumption))); intro h' o' F' N' hd'; (try dsimp only at N')) | (k_here; (show wpAny _ _ (compareOp CmpOp.Eq (Value.ref _) (Value.ref _)) _ _ _); k_dflt (refine' eq_nil ?nnN ?nna ?nnb ?nni ?nnu ?_; (case nnN => k_asm); (case nna => k_mem); (case nnb => k_mem); (case nni => assumption); (case nnu => ktr_units))) | (k_here; (show wpAny _ _ (compareOp CmpOp.NotEq (Value.ref _) (Value.ref _)) _ _ _); k_dflt (refine' ne_nil ?nnN ?nna ?nnb ?nni ?nnu ?_; (case nnN => k_asm); (case nna => k_mem); (case nnb => k_mem); (case nni => assumption); (case nnu => ktr_units))) | (k_here; (show wpAny _ _ (subscriptTail _ _ (Value.ref _) (Value.str _ _)) _ _ _); k_dflt (refine' kda_item (knd := PySem.strKind _ _) ?N ?p ?d (strKind_is _ _ _ _) ?l ?_; (case N => k_asm); (case p => k_mem); (case d => assumption); (case l => exact rfl))) | (k_here; (show wpAny _ _ (compareOp CmpOp.In (Value.int _ _) (Value.ref _)) _ _ _); k_dflt (refine' in_ints ?iiN ?iim ?iii ?iib ?_; (case iiN => k_asm); (case iim => k_mem); (case iii => assumption); (case iib => assumption)))) | walk1 | dsimp only | (leave1; try dsimp only) | fail "no step"))
      all_goals (try dsimp only)
      all_goals first
        | (rename (_ != _) = true => hx; exact absurd hx (by simp [due]))
        | exact ForEnd.of (nw := (lo, W.listOf its kl) :: (fa, ofa) :: (mains w (⟨ap, asc, aw, asp, dsp, ast, act, dct, aou, aen, T, Tc, nm, ak, lt, rc, ls, lm, fu, un, wn, hn, ec, gn, c, tg⟩ : Fx) a p0 t0 t2 tN le tW tf tc th rcv ow ost oou ens ke ++ R2)) (by k_asm) (by k_asm) ⟨rfl, (by intro y hy; simp only [List.mem_cons, List.not_mem_nil, or_false, not_or] at hy; obtain ⟨y1, y2, y3⟩ := hy; simp only [y1, y2, y3, if_false, tmp])⟩ (by k_mem)
            (by simp only [mains, List.cons_append, List.nil_append, hl]; tb_rel) (by simp only [mains, List.cons_append, List.nil_append, all_cons]; exact ⟨n1, n2, n3, n4, n5, n6, n7, n8, n9, n10, n11, n12⟩) (sub_cons (.tail _ (.head _)) sub_nil)
    · rw [hl] at N9 hdue
      (repeat' (first | (k_unfold; (try dsimp only)) | (k_end; wrow_close) | (with_reducible first | (k_here; (show wpAny _ _ (call (Value.ref 276) _) _ _ _); k_dflt (refine' Spec.useG (spec_take _ _ _ _ _ _ _ _ _ _ _ _ _ _ _ _ _ _ _ _ _ _ _ _ _ _ ?tD ?tl ?ts ?tnd ?ti ?tm ?t6 ?t1 ?t2 ?t3 ?t4 ?t5 ?t7) ?zB ?zF ?zX ?zN ?zP ?zA ?zR ?zT ?zk ?zd ?zu ?_); top_raise; (case zP => ktr_rel); (case tD | tl => assumption); (case ts => omega); (case ti | tnd | tm | t6 => assumption); (case t1 | t2 | t3 | t4 | t5 | t7 => k_ne); (case zA => ktr_unf); (case zR => k_dflt (intro g1 _ hr9; exact fun p hp => PkIn.at (hP2 p hp) fun x hx => hr9 x (by (repeat (first | exact hx | refine List.Mem.tail _ ?_))))); top_raise0; top_args; k_dflt (obtain ⟨lf', its', kf', os', ns', e1', hits', hperm', hS', e2'⟩ := P'; subst e1'; subst e2'; refine kG9 ?_; clear kG9); simp only [List.cons_append, List.nil_append] at N'; have N' := News.sub N' (fun p hp => List.Mem.tail _ hp); clear A'; top_strB) | (k_here; (show wpAny _ _ (call (Value.ref 138) _) _ _ _); k_dflt (refine' Spec.useG (spec_lost_any _ _ _ _ _ _ _ _ _ _ _ _ _ _ _ _ _ _ ?lv ?lth ?lrc ?lne ?lW ?lW2 ?lc ?lc2) ?zB ?zF ?zX ?zN ?zP ?zA ?zR ?zT ?zk ?zd ?zu ?_); top_raise; (case zP => ktr_rel); (case lv | lth | lrc => assumption); (case lne => k_ne); (case lW | lW2 | lc | lc2 => omega); top_raiseB; top_args; k_dflt (obtain ⟨Wd', cr', ta', tb', tc'', th', rcv', e1', hth', hrc', hW1', hW2', hW3', hc1', hc2', e2'⟩ := P'; top_argsB)) | (k_here; (show wpAny _ _ (call (Value.ref 42) _) _ _ _); k_dflt (refine' Spec.useG (spec_newest_time _ _ _ _ _ _ _ _ ?fs ?fD ?fl ?fh ?fm ?fn) ?zB ?zF ?zX ?zN ?zP ?zA ?zR ?zT ?zk ?zd ?zu ?_); top_raise; (case zP => ktr_rel); (case fD | fs | fl | fh | fm => assumption); (case fn => k_ne); (case zA => ktr_unf); (case zR => k_dflt (intro g1 _ hr9 e9 he9; exact RowIn.at (hrow e9 he9) fun x hx => hr9 x (by (repeat (first | exact hx | refine List.Mem.tail _ ?_))))); top_raise0; top_args; k_dflt (obtain ⟨hnv, e2'⟩ := P'; subst e2'; refine kG9 ?_; clear kG9); clear A'; top_strB) | (k_here; (show wpAny _ _ (call (Value.ref 47) _) _ _ _); k_dflt (refine' Spec.useG (spec_flight_size _ _ _ _ _ _ _ _ ?fs ?fi ?fD ?fl ?fh ?fm ?fn) ?zB ?zF ?zX ?zN ?zP ?zA ?zR ?zT ?zk ?zd ?zu ?_); top_raise; (case zP => ktr_rel); (case fD | fs | fi | fl | fh | fm => assumption); (case fn => k_ne); (case zA => ktr_unf); (case zR => k_dflt (intro g1 _ hr9 e9 he9; exact RowIn.at (hrow e9 he9) fun x hx => hr9 x (by (repeat (first | exact hx | refine List.Mem.tail _ ?_))))); top_raise0; top_args; k_dflt (obtain ⟨⟨tfs, e1'⟩, e2'⟩ := P'; top_argsB)) | (k_here; (show wpAny _ _ (call (Value.builtin "list.extend") [Value.ref _, Value.ref _]) _ _ _); k_dflt (refine' extend_list ?exq1 ?exq2 ?exq3 ?exq4 ?exq5 ?exq6 ?exq7 ?_; (case exq1 => k_asm); (case exq2 => k_asm); (case exq3 => exact List.Mem.tail _ (List.Mem.tail _ (List.Mem.tail _ (List.Mem.head _)))); (case exq7 => k_upd); (case exq4 => first | assumption | exact hs0 (by assumption)); (case exq5 => omega); (case exq6 => omega)); intro h' F' N') | (k_here; (show wpAny _ _ (call (Value.builtin "dict.pop") [Value.ref _, Value.int _ _]) _ _ _); k_dflt (refine' kob_pop (knd := PySem.intKind _ _) (more := []) ?F ?N ?U ?d (intKind_is _ _ _ _) (.inl rfl) (by rfl) (PySem.F.args_dict_pop_2 _ _) ?l ?z ?_; (case F => k_asm); (case N => k_asm); (case U => k_updF); (case d => assumption); (case l => assumption); (case z => (rw [sizeLine_eq]; assumption))); intro h' o' F' N' hd'; (try dsimp only at N')) | (k_here; (show wpAny _ _ (compareOp CmpOp.Eq (Value.ref _) (Value.ref _)) _ _ _); k_dflt (refine' eq_nil ?nnN ?nna ?nnb ?nni ?nnu ?_; (case nnN => k_asm); (case nna => k_mem); (case nnb => k_mem); (case nni => assumption); (case nnu => ktr_units))) | (k_here; (show wpAny _ _ (compareOp CmpOp.NotEq (Value.ref _) (Value.ref _)) _ _ _); k_dflt (refine' ne_nil ?nnN ?nna ?nnb ?nni ?nnu ?_; (case nnN => k_asm); (case nna => k_mem); (case nnb => k_mem); (case nni => assumption); (case nnu => ktr_units))) | (k_here; (show wpAny _ _ (subscriptTail _ _ (Value.ref _) (Value.str _ _)) _ _ _); k_dflt (refine' kda_item (knd := PySem.strKind _ _) ?N ?p ?d (strKind_is _ _ _ _) ?l ?_; (case N => k_asm); (case p => k_mem); (case d => assumption); (case l => exact rfl))) | (k_here; (show wpAny _ _ (compareOp CmpOp.In (Value.int _ _) (Value.ref _)) _ _ _); k_dflt (refine' in_ints ?iiN ?iim ?iii ?iib ?_; (case iiN => k_asm); (case iim => k_mem); (case iii => assumption); (case iib => assumption)))) | walk1 | dsimp only | (leave1; try dsimp only) | fail "no step"))
      all_goals (try dsimp only)
      all_goals first
        | (rename (_ != _) = true => hx; exact absurd hx (by rw [due_far (by assumption) (by assumption)]; simp))
        | (rename (_ != _) = true => hx; exact absurd hx (by rw [due_time (by assumption) (by assumption)]; simp))
        | (rename (_ != _) = true => hx; exact absurd hx (by rw [due_no (by assumption)]; simp))
        | exact ForEnd.of (nw := (lo, W.listOf its kl) :: (fa, ofa) :: (mains w (⟨ap, asc, aw, asp, dsp, ast, act, dct, aou, aen, T, Tc, nm, ak, lt, rc, ls, lm, fu, un, wn, hn, ec, gn, c, tg⟩ : Fx) a p0 t0 t2 tN le tW tf tc th rcv ow ost oou ens ke ++ R2)) (by k_asm) (by k_asm) ⟨rfl, (by intro y hy; simp only [List.mem_cons, List.not_mem_nil, or_false, not_or] at hy; obtain ⟨y1, y2, y3⟩ := hy; simp only [y1, y2, y3, if_false, tmp])⟩ (by k_mem)
            (by simp only [mains, List.cons_append, List.nil_append, hl]; tb_rel) (by simp only [mains, List.cons_append, List.nil_append, all_cons]; exact ⟨n1, n2, n3, n4, n5, n6, n7, n8, n9, n10, n11, n12⟩) (sub_cons (.tail _ (.head _)) sub_nil)
  case done =>
    intro h' tk m' nw F N hJ
    dsimp only [envOf] at F N
    refine gen_P fun G9 kG9 => ?_
    subst hJ
    refine kG9 ?_
    clear kG9
    dsimp only [mains, List.cons_append, List.nil_append] at N
    have hP2 : ∀ p ∈ a.ps, PkIn w R2 p := fun p hp => (hP p (by rw [hO.al]; exact hp)).mono hsub2
    have hnd2 := hO.nd2
    have hlim3 : ∀ x ∈ li, x ∈ a.ps.map (·.n) := fun x hx => ((hlim x).mp hx).1
    have hlim2 : ∀ x ∈ li, x ∈ (rl.map (·.1)).map (·.n) := by rw [hrl]; exact hlim3
    have hll := pks_len hnd2 hlin hlim3
    have hl64 : li.length < 64 := by omega
    have hsz : its.size = li.length := by rw [← Array.length_toList]; exact hli.length
    have hse : ens.size = a.ends.length := by rw [← Array.length_toList]; exact hE.length
    have hs64 : its.size ≤ 64 := by omega
    have hs0 : li ≠ [] → 0 < its.size := by intro h; rw [hsz]; exact List.length_pos_iff.mpr h
    have hWu : a.W ≤ 7100 := by have := hO.Wu; have := sum_nonneg hO.z; omega
    (repeat' (first | (k_unfold; (try dsimp only)) | (k_end; wrow_close) | (with_reducible first | (k_here; (show wpAny _ _ (call (Value.ref 276) _) _ _ _); k_dflt (refine' Spec.useG (spec_take _ _ _ _ _ _ _ _ _ _ _ _ _ _ _ _ _ _ _ _ _ _ _ _ _ _ ?tD ?tl ?ts ?tnd ?ti ?tm ?t6 ?t1 ?t2 ?t3 ?t4 ?t5 ?t7) ?zB ?zF ?zX ?zN ?zP ?zA ?zR ?zT ?zk ?zd ?zu ?_); top_raise; (case zP => ktr_rel); (case tD | tl => assumption); (case ts => omega); (case ti | tnd | tm | t6 => assumption); (case t1 | t2 | t3 | t4 | t5 | t7 => k_ne); (case zA => ktr_unf); (case zR => k_dflt (intro g1 _ hr9; exact fun p hp => PkIn.at (hP2 p hp) fun x hx => hr9 x (by (repeat (first | exact hx | refine List.Mem.tail _ ?_))))); top_raise0; top_args; k_dflt (obtain ⟨lf', its', kf', os', ns', e1', hits', hperm', hS', e2'⟩ := P'; subst e1'; subst e2'; refine kG9 ?_; clear kG9); simp only [List.cons_append, List.nil_append] at N'; have N' := News.sub N' (fun p hp => List.Mem.tail _ hp); clear A'; top_strB) | (k_here; (show wpAny _ _ (call (Value.ref 138) _) _ _ _); k_dflt (refine' Spec.useG (spec_lost_any _ _ _ _ _ _ _ _ _ _ _ _ _ _ _ _ _ _ ?lv ?lth ?lrc ?lne ?lW ?lW2 ?lc ?lc2) ?zB ?zF ?zX ?zN ?zP ?zA ?zR ?zT ?zk ?zd ?zu ?_); top_raise; (case zP => ktr_rel); (case lv | lth | lrc => assumption); (case lne => k_ne); (case lW | lW2 | lc | lc2 => omega); top_raiseB; top_args; k_dflt (obtain ⟨Wd', cr', ta', tb', tc'', th', rcv', e1', hth', hrc', hW1', hW2', hW3', hc1', hc2', e2'⟩ := P'; top_argsB)) | (k_here; (show wpAny _ _ (call (Value.ref 42) _) _ _ _); k_dflt (refine' Spec.useG (spec_newest_time _ _ _ _ _ _ _ _ ?fs ?fD ?fl ?fh ?fm ?fn) ?zB ?zF ?zX ?zN ?zP ?zA ?zR ?zT ?zk ?zd ?zu ?_); top_raise; (case zP => ktr_rel); (case fD | fs | fl | fh | fm => assumption); (case fn => k_ne); (case zA => ktr_unf); (case zR => k_dflt (intro g1 _ hr9 e9 he9; exact RowIn.at (hrow e9 he9) fun x hx => hr9 x (by (repeat (first | exact hx | refine List.Mem.tail _ ?_))))); top_raise0; top_args; k_dflt (obtain ⟨hnv, e2'⟩ := P'; subst e2'; refine kG9 ?_; clear kG9); clear A'; top_strB) | (k_here; (show wpAny _ _ (call (Value.ref 47) _) _ _ _); k_dflt (refine' Spec.useG (spec_flight_size _ _ _ _ _ _ _ _ ?fs ?fi ?fD ?fl ?fh ?fm ?fn) ?zB ?zF ?zX ?zN ?zP ?zA ?zR ?zT ?zk ?zd ?zu ?_); top_raise; (case zP => ktr_rel); (case fD | fs | fi | fl | fh | fm => assumption); (case fn => k_ne); (case zA => ktr_unf); (case zR => k_dflt (intro g1 _ hr9 e9 he9; exact RowIn.at (hrow e9 he9) fun x hx => hr9 x (by (repeat (first | exact hx | refine List.Mem.tail _ ?_))))); top_raise0; top_args; k_dflt (obtain ⟨⟨tfs, e1'⟩, e2'⟩ := P'; top_argsB)) | (k_here; (show wpAny _ _ (call (Value.builtin "list.extend") [Value.ref _, Value.ref _]) _ _ _); k_dflt (refine' extend_list ?exq1 ?exq2 ?exq3 ?exq4 ?exq5 ?exq6 ?exq7 ?_; (case exq1 => k_asm); (case exq2 => k_asm); (case exq3 => exact List.Mem.tail _ (List.Mem.tail _ (List.Mem.tail _ (List.Mem.head _)))); (case exq7 => k_upd); (case exq4 => first | assumption | exact hs0 (by assumption)); (case exq5 => omega); (case exq6 => omega)); intro h' F' N') | (k_here; (show wpAny _ _ (call (Value.builtin "dict.pop") [Value.ref _, Value.int _ _]) _ _ _); k_dflt (refine' kob_pop (knd := PySem.intKind _ _) (more := []) ?F ?N ?U ?d (intKind_is _ _ _ _) (.inl rfl) (by rfl) (PySem.F.args_dict_pop_2 _ _) ?l ?z ?_; (case F => k_asm); (case N => k_asm); (case U => k_updF); (case d => assumption); (case l => assumption); (case z => (rw [sizeLine_eq]; assumption))); intro h' o' F' N' hd'; (try dsimp only at N')) | (k_here; (show wpAny _ _ (compareOp CmpOp.Eq (Value.ref _) (Value.ref _)) _ _ _); k_dflt (refine' eq_nil ?nnN ?nna ?nnb ?nni ?nnu ?_; (case nnN => k_asm); (case nna => k_mem); (case nnb => k_mem); (case nni => assumption); (case nnu => ktr_units))) | (k_here; (show wpAny _ _ (compareOp CmpOp.NotEq (Value.ref _) (Value.ref _)) _ _ _); k_dflt (refine' ne_nil ?nnN ?nna ?nnb ?nni ?nnu ?_; (case nnN => k_asm); (case nna => k_mem); (case nnb => k_mem); (case nni => assumption); (case nnu => ktr_units))) | (k_here; (show wpAny _ _ (subscriptTail _ _ (Value.ref _) (Value.str _ _)) _ _ _); k_dflt (refine' kda_item (knd := PySem.strKind _ _) ?N ?p ?d (strKind_is _ _ _ _) ?l ?_; (case N => k_asm); (case p => k_mem); (case d => assumption); (case l => exact rfl))) | (k_here; (show wpAny _ _ (compareOp CmpOp.In (Value.int _ _) (Value.ref _)) _ _ _); k_dflt (refine' in_ints ?iiN ?iim ?iii ?iib ?_; (case iiN => k_asm); (case iim => k_mem); (case iii => assumption); (case iib => assumption)))) | walk1 | dsimp only | (leave1; try dsimp only) | fail "no step"))
    all_goals (try dsimp only)
    rotate_left 2
    · obtain ⟨a6, ha6⟩ : ∃ x : Ab, x = { a with W := Wd', f := a.f - (li.map fun x => ((ofNum (rl.map (·.1)) x).map (·.z)).getD 0).sum, cr := cr' } := ⟨_, rfl⟩
      have N6 := News.sub (l' := (lo, W.listOf its kl) :: (mains w (⟨ap, asc, aw, asp, dsp, ast, act, dct, aou, aen, T, Tc, nm, ak, lt, rc, ls, lm, fu, un, wn, hn, ec, gn, c, tg⟩ : Fx) a6 p0 t0 t2 tN le ta' tb' tc'' th' rcv' ow os' oou (ens.toList ++ its.toList).toArray (ke + 1) ++ R2)) (by k_asm) (by rw [ha6]; simp only [mains, List.cons_append, List.nil_append]; tb_rel)
      refine for_list' (l := lo) (o := W.listOf its kl) rfl (by k_asm) N6 (.head _) rfl rfl [Str.ofString "number"] (by decide)
        (fun i m₁ nw => ∃ o : Obj, o.IsDictOf (intKind PySem.Challenge.rw_pb0526_01.row.prog w) (outOf (keepN a.ps (li.take i))) ∧ nw = (lo, W.listOf its kl) :: (mains w (⟨ap, asc, aw, asp, dsp, ast, act, dct, aou, aen, T, Tc, nm, ak, lt, rc, ls, lm, fu, un, wn, hn, ec, gn, c, tg⟩ : Fx) a6 p0 t0 t2 tN le ta' tb' tc'' th' rcv' ow os' o (ens.toList ++ its.toList).toArray (ke + 1) ++ R2)) ⟨oou, by rw [List.take_zero, keepN_nil]; exact hU, rfl⟩ ?step2 ?done2
      case step2 =>
        intro i v m₁ nw I oI h tk hv hJ hdm hnI F N
        refine gen_P fun G9 kG9 => ?_
        obtain ⟨o6, ho6, rfl⟩ := hJ
        dsimp only [envOf] at F N
        obtain ⟨n6, t6, rfl, hn6⟩ := hli.at i v (by simpa using hv)
        obtain ⟨p6, hof6, hp6, rfl⟩ := ofNum_some (hlim3 _ (List.mem_of_getElem? hn6))
        refine kG9 ?_
        clear kG9
        have hfr : p6.n ∉ li.take i := by
          intro q
          have e := split_at hn6
          rw [e, List.nodup_append] at hlin
          exact hlin.2.2 _ q _ (.head _) rfl
        have hval6 := value_out (keepN_nodup hnd2 (li.take i)) (keepN_mem.mpr ⟨hp6, hfr⟩)
        have hz6 : (outOf (keepN a.ps (li.take i))).length ≤ 16777216 := by
          have h6 : (keepN a.ps (li.take i)).length ≤ a.ps.length := List.length_filter_le _ _
          simp only [List.length_map]
          omega
        dsimp only [mains, List.cons_append, List.nil_append] at N hnI ⊢
        simp only [all_cons] at hnI
        refine gen_P fun G9 kG9 => ?_
        obtain ⟨n1, n2, n3, n4, n5, n6, n7, n8, n9, n10, n11⟩ := hnI
        refine kG9 ?_
        clear kG9
        (repeat' (first | (k_unfold; (try dsimp only)) | (k_end; wrow_close) | (with_reducible first | (k_here; (show wpAny _ _ (call (Value.ref 276) _) _ _ _); k_dflt (refine' Spec.useG (spec_take _ _ _ _ _ _ _ _ _ _ _ _ _ _ _ _ _ _ _ _ _ _ _ _ _ _ ?tD ?tl ?ts ?tnd ?ti ?tm ?t6 ?t1 ?t2 ?t3 ?t4 ?t5 ?t7) ?zB ?zF ?zX ?zN ?zP ?zA ?zR ?zT ?zk ?zd ?zu ?_); top_raise; (case zP => ktr_rel); (case tD | tl => assumption); (case ts => omega); (case ti | tnd | tm | t6 => assumption); (case t1 | t2 | t3 | t4 | t5 | t7 => k_ne); (case zA => ktr_unf); (case zR => k_dflt (intro g1 _ hr9; exact fun p hp => PkIn.at (hP2 p hp) fun x hx => hr9 x (by (repeat (first | exact hx | refine List.Mem.tail _ ?_))))); top_raise0; top_args; k_dflt (obtain ⟨lf', its', kf', os', ns', e1', hits', hperm', hS', e2'⟩ := P'; subst e1'; subst e2'; refine kG9 ?_; clear kG9); simp only [List.cons_append, List.nil_append] at N'; have N' := News.sub N' (fun p hp => List.Mem.tail _ hp); clear A'; top_strB) | (k_here; (show wpAny _ _ (call (Value.ref 138) _) _ _ _); k_dflt (refine' Spec.useG (spec_lost_any _ _ _ _ _ _ _ _ _ _ _ _ _ _ _ _ _ _ ?lv ?lth ?lrc ?lne ?lW ?lW2 ?lc ?lc2) ?zB ?zF ?zX ?zN ?zP ?zA ?zR ?zT ?zk ?zd ?zu ?_); top_raise; (case zP => ktr_rel); (case lv | lth | lrc => assumption); (case lne => k_ne); (case lW | lW2 | lc | lc2 => omega); top_raiseB; top_args; k_dflt (obtain ⟨Wd', cr', ta', tb', tc'', th', rcv', e1', hth', hrc', hW1', hW2', hW3', hc1', hc2', e2'⟩ := P'; top_argsB)) | (k_here; (show wpAny _ _ (call (Value.ref 42) _) _ _ _); k_dflt (refine' Spec.useG (spec_newest_time _ _ _ _ _ _ _ _ ?fs ?fD ?fl ?fh ?fm ?fn) ?zB ?zF ?zX ?zN ?zP ?zA ?zR ?zT ?zk ?zd ?zu ?_); top_raise; (case zP => ktr_rel); (case fD | fs | fl | fh | fm => assumption); (case fn => k_ne); (case zA => ktr_unf); (case zR => k_dflt (intro g1 _ hr9 e9 he9; exact RowIn.at (hrow e9 he9) fun x hx => hr9 x (by (repeat (first | exact hx | refine List.Mem.tail _ ?_))))); top_raise0; top_args; k_dflt (obtain ⟨hnv, e2'⟩ := P'; subst e2'; refine kG9 ?_; clear kG9); clear A'; top_strB) | (k_here; (show wpAny _ _ (call (Value.ref 47) _) _ _ _); k_dflt (refine' Spec.useG (spec_flight_size _ _ _ _ _ _ _ _ ?fs ?fi ?fD ?fl ?fh ?fm ?fn) ?zB ?zF ?zX ?zN ?zP ?zA ?zR ?zT ?zk ?zd ?zu ?_); top_raise; (case zP => ktr_rel); (case fD | fs | fi | fl | fh | fm => assumption); (case fn => k_ne); (case zA => ktr_unf); (case zR => k_dflt (intro g1 _ hr9 e9 he9; exact RowIn.at (hrow e9 he9) fun x hx => hr9 x (by (repeat (first | exact hx | refine List.Mem.tail _ ?_))))); top_raise0; top_args; k_dflt (obtain ⟨⟨tfs, e1'⟩, e2'⟩ := P'; top_argsB)) | (k_here; (show wpAny _ _ (call (Value.builtin "list.extend") [Value.ref _, Value.ref _]) _ _ _); k_dflt (refine' extend_list ?exq1 ?exq2 ?exq3 ?exq4 ?exq5 ?exq6 ?exq7 ?_; (case exq1 => k_asm); (case exq2 => k_asm); (case exq3 => exact List.Mem.tail _ (List.Mem.tail _ (List.Mem.tail _ (List.Mem.head _)))); (case exq7 => k_upd); (case exq4 => first | assumption | exact hs0 (by assumption)); (case exq5 => omega); (case exq6 => omega)); intro h' F' N') | (k_here; (show wpAny _ _ (call (Value.builtin "dict.pop") [Value.ref _, Value.int _ _]) _ _ _); k_dflt (refine' kob_pop (knd := PySem.intKind _ _) (more := []) ?F ?N ?U ?d (intKind_is _ _ _ _) (.inl rfl) (by rfl) (PySem.F.args_dict_pop_2 _ _) ?l ?z ?_; (case F => k_asm); (case N => k_asm); (case U => k_updF); (case d => assumption); (case l => assumption); (case z => (rw [sizeLine_eq]; assumption))); intro h' o' F' N' hd'; (try dsimp only at N')) | (k_here; (show wpAny _ _ (compareOp CmpOp.Eq (Value.ref _) (Value.ref _)) _ _ _); k_dflt (refine' eq_nil ?nnN ?nna ?nnb ?nni ?nnu ?_; (case nnN => k_asm); (case nna => k_mem); (case nnb => k_mem); (case nni => assumption); (case nnu => ktr_units))) | (k_here; (show wpAny _ _ (compareOp CmpOp.NotEq (Value.ref _) (Value.ref _)) _ _ _); k_dflt (refine' ne_nil ?nnN ?nna ?nnb ?nni ?nnu ?_; (case nnN => k_asm); (case nna => k_mem); (case nnb => k_mem); (case nni => assumption); (case nnu => ktr_units))) | (k_here; (show wpAny _ _ (subscriptTail _ _ (Value.ref _) (Value.str _ _)) _ _ _); k_dflt (refine' kda_item (knd := PySem.strKind _ _) ?N ?p ?d (strKind_is _ _ _ _) ?l ?_; (case N => k_asm); (case p => k_mem); (case d => assumption); (case l => exact rfl))) | (k_here; (show wpAny _ _ (compareOp CmpOp.In (Value.int _ _) (Value.ref _)) _ _ _); k_dflt (refine' in_ints ?iiN ?iim ?iii ?iib ?_; (case iiN => k_asm); (case iim => k_mem); (case iii => assumption); (case iib => assumption)))) | walk1 | dsimp only | (leave1; try dsimp only) | fail "no step"))
        all_goals (try dsimp only)
        rename Obj.IsDictOf _ _ (without _ _) => hd9
        rw [without_out, ← keepN_snoc, ← take_snoc hn6] at hd9
        exact ForEnd.of (nw := (lo, W.listOf its kl) :: (mains w (⟨ap, asc, aw, asp, dsp, ast, act, dct, aou, aen, T, Tc, nm, ak, lt, rc, ls, lm, fu, un, wn, hn, ec, gn, c, tg⟩ : Fx) a6 p0 t0 t2 tN le ta' tb' tc'' th' rcv' ow os' _ (ens.toList ++ its.toList).toArray (ke + 1) ++ R2)) (by k_asm) (by k_asm) ⟨⟨_, hd9, rfl⟩, (by intro y hy; simp only [List.mem_cons, List.not_mem_nil, or_false] at hy; simp only [hy, if_false, tmp])⟩ (by k_mem)
          (by simp only [mains, List.cons_append, List.nil_append]; tb_rel) (by simp only [mains, List.cons_append, List.nil_append, all_cons]; exact ⟨n1, n2, n3, n4, n5, n6, n7, n8, n9, n10, n11⟩) (sub_cons (.head _) sub_nil)
      case done2 =>
        intro h' tk m' nw F N hJ
        refine gen_P fun G9 kG9 => ?_
        obtain ⟨o6, ho6, rfl⟩ := hJ
        refine kG9 ?_
        clear kG9
        dsimp only [envOf] at F N
        have ho6 : o6.IsDictOf (intKind PySem.Challenge.rw_pb0526_01.row.prog w) (outOf (keepN a.ps li)) := by
          have e : li.take its.size = li := List.take_of_length_le (by omega)
          rw [e] at ho6
          exact ho6
        rw [ha6] at N
        dsimp only [mains, List.cons_append, List.nil_append] at N
        (repeat' (first | (k_unfold; (try dsimp only)) | (k_end; wrow_close) | (with_reducible first | (k_here; (show wpAny _ _ (call (Value.ref 276) _) _ _ _); k_dflt (refine' Spec.useG (spec_take _ _ _ _ _ _ _ _ _ _ _ _ _ _ _ _ _ _ _ _ _ _ _ _ _ _ ?tD ?tl ?ts ?tnd ?ti ?tm ?t6 ?t1 ?t2 ?t3 ?t4 ?t5 ?t7) ?zB ?zF ?zX ?zN ?zP ?zA ?zR ?zT ?zk ?zd ?zu ?_); top_raise; (case zP => ktr_rel); (case tD | tl => assumption); (case ts => omega); (case ti | tnd | tm | t6 => assumption); (case t1 | t2 | t3 | t4 | t5 | t7 => k_ne); (case zA => ktr_unf); (case zR => k_dflt (intro g1 _ hr9; exact fun p hp => PkIn.at (hP2 p hp) fun x hx => hr9 x (by (repeat (first | exact hx | refine List.Mem.tail _ ?_))))); top_raise0; top_args; k_dflt (obtain ⟨lf', its', kf', os', ns', e1', hits', hperm', hS', e2'⟩ := P'; subst e1'; subst e2'; refine kG9 ?_; clear kG9); simp only [List.cons_append, List.nil_append] at N'; have N' := News.sub N' (fun p hp => List.Mem.tail _ hp); clear A'; top_strB) | (k_here; (show wpAny _ _ (call (Value.ref 138) _) _ _ _); k_dflt (refine' Spec.useG (spec_lost_any _ _ _ _ _ _ _ _ _ _ _ _ _ _ _ _ _ _ ?lv ?lth ?lrc ?lne ?lW ?lW2 ?lc ?lc2) ?zB ?zF ?zX ?zN ?zP ?zA ?zR ?zT ?zk ?zd ?zu ?_); top_raise; (case zP => ktr_rel); (case lv | lth | lrc => assumption); (case lne => k_ne); (case lW | lW2 | lc | lc2 => omega); top_raiseB; top_args; k_dflt (obtain ⟨Wd', cr', ta', tb', tc'', th', rcv', e1', hth', hrc', hW1', hW2', hW3', hc1', hc2', e2'⟩ := P'; top_argsB)) | (k_here; (show wpAny _ _ (call (Value.ref 42) _) _ _ _); k_dflt (refine' Spec.useG (spec_newest_time _ _ _ _ _ _ _ _ ?fs ?fD ?fl ?fh ?fm ?fn) ?zB ?zF ?zX ?zN ?zP ?zA ?zR ?zT ?zk ?zd ?zu ?_); top_raise; (case zP => ktr_rel); (case fD | fs | fl | fh | fm => assumption); (case fn => k_ne); (case zA => ktr_unf); (case zR => k_dflt (intro g1 _ hr9 e9 he9; exact RowIn.at (hrow e9 he9) fun x hx => hr9 x (by (repeat (first | exact hx | refine List.Mem.tail _ ?_))))); top_raise0; top_args; k_dflt (obtain ⟨hnv, e2'⟩ := P'; subst e2'; refine kG9 ?_; clear kG9); clear A'; top_strB) | (k_here; (show wpAny _ _ (call (Value.ref 47) _) _ _ _); k_dflt (refine' Spec.useG (spec_flight_size _ _ _ _ _ _ _ _ ?fs ?fi ?fD ?fl ?fh ?fm ?fn) ?zB ?zF ?zX ?zN ?zP ?zA ?zR ?zT ?zk ?zd ?zu ?_); top_raise; (case zP => ktr_rel); (case fD | fs | fi | fl | fh | fm => assumption); (case fn => k_ne); (case zA => ktr_unf); (case zR => k_dflt (intro g1 _ hr9 e9 he9; exact RowIn.at (hrow e9 he9) fun x hx => hr9 x (by (repeat (first | exact hx | refine List.Mem.tail _ ?_))))); top_raise0; top_args; k_dflt (obtain ⟨⟨tfs, e1'⟩, e2'⟩ := P'; top_argsB)) | (k_here; (show wpAny _ _ (call (Value.builtin "list.extend") [Value.ref _, Value.ref _]) _ _ _); k_dflt (refine' extend_list ?exq1 ?exq2 ?exq3 ?exq4 ?exq5 ?exq6 ?exq7 ?_; (case exq1 => k_asm); (case exq2 => k_asm); (case exq3 => exact List.Mem.tail _ (List.Mem.tail _ (List.Mem.tail _ (List.Mem.head _)))); (case exq7 => k_upd); (case exq4 => first | assumption | exact hs0 (by assumption)); (case exq5 => omega); (case exq6 => omega)); intro h' F' N') | (k_here; (show wpAny _ _ (call (Value.builtin "dict.pop") [Value.ref _, Value.int _ _]) _ _ _); k_dflt (refine' kob_pop (knd := PySem.intKind _ _) (more := []) ?F ?N ?U ?d (intKind_is _ _ _ _) (.inl rfl) (by rfl) (PySem.F.args_dict_pop_2 _ _) ?l ?z ?_; (case F => k_asm); (case N => k_asm); (case U => k_updF); (case d => assumption); (case l => assumption); (case z => (rw [sizeLine_eq]; assumption))); intro h' o' F' N' hd'; (try dsimp only at N')) | (k_here; (show wpAny _ _ (compareOp CmpOp.Eq (Value.ref _) (Value.ref _)) _ _ _); k_dflt (refine' eq_nil ?nnN ?nna ?nnb ?nni ?nnu ?_; (case nnN => k_asm); (case nna => k_mem); (case nnb => k_mem); (case nni => assumption); (case nnu => ktr_units))) | (k_here; (show wpAny _ _ (compareOp CmpOp.NotEq (Value.ref _) (Value.ref _)) _ _ _); k_dflt (refine' ne_nil ?nnN ?nna ?nnb ?nni ?nnu ?_; (case nnN => k_asm); (case nna => k_mem); (case nnb => k_mem); (case nni => assumption); (case nnu => ktr_units))) | (k_here; (show wpAny _ _ (subscriptTail _ _ (Value.ref _) (Value.str _ _)) _ _ _); k_dflt (refine' kda_item (knd := PySem.strKind _ _) ?N ?p ?d (strKind_is _ _ _ _) ?l ?_; (case N => k_asm); (case p => k_mem); (case d => assumption); (case l => exact rfl))) | (k_here; (show wpAny _ _ (compareOp CmpOp.In (Value.int _ _) (Value.ref _)) _ _ _); k_dflt (refine' in_ints ?iiN ?iim ?iii ?iib ?_; (case iiN => k_asm); (case iim => k_mem); (case iii => assumption); (case iib => assumption)))) | walk1 | dsimp only | (leave1; try dsimp only) | fail "no step"))
        all_goals (try dsimp only)
        rw [keepN_perm hperm'] at hS'
        have hsm : (li.map fun x => ((ofNum (rl.map (·.1)) x).map (·.z)).getD 0).sum = ((pksOf a.ps li).map (·.z)).sum := by rw [hrl]; exact pks_sum hlim3
        have hsn : 0 ≤ ((pksOf a.ps li).map (·.z)).sum := sum_nonneg fun p hp => hO.z p ((pks_mem hnd2).mp hp).1
        have hO7 := hO.stop hlin hlim3 (List.Perm.refl li) hW1' (by omega) hc1' hc2' (f := a.f - (li.map fun x => ((ofNum (rl.map (·.1)) x).map (·.z)).getD 0).sum) (la := a.la) (by rw [hsm])
        exact hQ0 _ _ (leaf_lay (X := (⟨ap, asc, aw, asp, dsp, ast, act, dct, aou, aen, T, Tc, nm, ak, lt, rc, ls, lm, fu, un, wn, hn, ec, gn, c, tg⟩ : Fx)) (a := { a with al := keepN a.ps li, ps := keepN a.ps li, qs := keepN a.ps li, ends := a.ends ++ li, W := Wd', f := a.f - (li.map fun x => ((ofNum (rl.map (·.1)) x).map (·.z)).getD 0).sum, cr := cr', la := a.la }) (by k_asm) (by k_asm) (lay_in (R := R2) (by k_asm) (by dsimp only; k_mem) (by dsimp only; k_mem) (by dsimp only; k_mem) (by dsimp only; k_mem) (by dsimp only; k_mem) (by dsimp only; k_mem) (by dsimp only; k_mem) (by dsimp only; k_mem) (by dsimp only; k_mem) (by tb_rel) ⟨by assumption, by assumption⟩ hth' hrc' hla hW hS' ho6 (by rw [List.toList_toArray]; exact IntsAre.append hE hli) (fun p hp => hP2 p (keepN_mem.mp hp).1) ⟨r1, r2, r3, r4, r5, r6, r7, r8, r9⟩ rfl rfl rfl rfl rfl rfl rfl) fun nw h => ⟨_, by rw [decide_eq_true hW3'], h, hO7, rfl, rfl, rfl, fun x hx => List.mem_append_left _ hx, fun p hp hdu =>
          List.mem_append_right _ ((hlim p.n).mpr ⟨List.mem_map_of_mem hp, by unfold dueN; rw [ofNum_mem hnd2 hp]; exact hdu⟩)⟩)
    · exact absurd rfl (by assumption)
    · rename li = [] => hl0
      exact hQ0 _ _ (leaf_lay (X := (⟨ap, asc, aw, asp, dsp, ast, act, dct, aou, aen, T, Tc, nm, ak, lt, rc, ls, lm, fu, un, wn, hn, ec, gn, c, tg⟩ : Fx)) (a := a) (by k_asm) (by k_asm) (lay_in (R := R2) (by k_asm) (by dsimp only; k_mem) (by dsimp only; k_mem) (by dsimp only; k_mem) (by dsimp only; k_mem) (by dsimp only; k_mem) (by dsimp only; k_mem) (by dsimp only; k_mem) (by dsimp only; k_mem) (by dsimp only; k_mem) (by tb_rel) ⟨by assumption, by assumption⟩ hth hrc hla hW hS (by rw [hO.qs]; exact hU) hE (fun p hp => (hP p hp).mono hsub2) ⟨r1, r2, r3, r4, r5, r6, r7, r8, r9⟩ rfl rfl rfl rfl rfl rfl rfl) fun nw h => ⟨a, by rw [decide_eq_true (Int.le_refl _)], h, hO, rfl, rfl, rfl, fun x hx => hx, fun p hp hdu => by
          have h9 := (hlim p.n).mpr ⟨List.mem_map_of_mem hp, by unfold dueN; rw [ofNum_mem hnd2 hp]; exact hdu⟩
          rw [hl0] at h9
          exact absurd h9 (List.not_mem_nil)⟩)

end
end

section
open PySem PySem.W PyProof.Rows PySem.Calls LCg LCt
set_option maxRecDepth 100000
set_option maxHeartbeats 0
set_option linter.unusedVariables false
section
theorem fresh_Ak : True := by
  w_top off
  exact trivial



set_option hygiene false
set_option hygiene true
-- the tactics of the kit that this text gives a meaning of its own: ktr_rel the entries picked, ktr_unf what stands apart
local macro_rules | `(tactic| tb_rel) => `(tactic| first | (with_reducible exact sub_refl) | (with_reducible exact sub_skip sub_refl) | (with_reducible exact sub_skip (sub_skip sub_refl)) | ((with_reducible refine' sub_keep ?ska); (case ska => tb_rel)) | exact sub_nil | (refine sub_cons ?a ?b; (case a => k_mem); (case b => tb_rel)) | (intro q9 hq9; (repeat (first | assumption | refine List.Mem.tail _ ?_))))

def AkJ (w : World) (X : Fx) (a : Ab) (tN : Tok) (le : Value) (tW tf tc : Tok) (th rcv : Value) (ow ost oou : Obj) (ens : Array Value) (ke : Nat) (c1 c2 c3 : Addr) (oc2 oc3 : Obj) (R : List (Addr × Obj)) (i : Nat) (ys : List Value) (nw : List (Addr × Obj)) : Prop :=
  ∃ (p0 : Int) (t0 t2 : Tok) (oc : Obj) (R' : List (Addr × Obj)) (ps : List (Int × Value)) (dr : Int), (0 ≤ p0 ∧ p0 < 1009) ∧ oc.data = .cell (some (.ref X.asp)) ∧ dr = a.dr + 1 + i ∧ ps.length = i ∧ ys.length = i ∧
    (∀ (j : Nat) (v : Value), ys[j]? = some v → ∃ t k x b, v = .ref t ∧ ps[j]? = some (k, b) ∧ (t, ({ cls := .type "tuple", data := .seq #[.int k x, b] } : Obj)) ∈ R') ∧ (∀ p ∈ R, p ∈ R') ∧ Off X R' ∧ ((∀ p ∈ R', p.1 ≠ c1) ∧ (∀ p ∈ R', p.1 ≠ c2) ∧ ∀ p ∈ R', p.1 ≠ c3) ∧
    nw = (c1, oc) :: (c2, oc2) :: (c3, oc3) :: (mains w X { a with dr := dr } p0 t0 t2 tN le tW tf tc th rcv ow ost oou ens ke ++ R')
theorem akj_items {ys : List Value} {ps : List (Int × Value)} {R' : List (Addr × Obj)} {q : Addr} {k : Int} {x : Tok} {b : Value} {i : Nat} (hp : ps.length = i) (hy : ys.length = i)
    (h : ∀ (j : Nat) (v : Value), ys[j]? = some v → ∃ t k x b, v = .ref t ∧ ps[j]? = some (k, b) ∧ (t, ({ cls := .type "tuple", data := .seq #[.int k x, b] } : Obj)) ∈ R') :
    ∀ (j : Nat) (v : Value), (ys ++ [Value.ref q])[j]? = some v → ∃ t k' x' b', v = .ref t ∧ (ps ++ [(k, b)])[j]? = some (k', b') ∧ (t, ({ cls := .type "tuple", data := .seq #[.int k' x', b'] } : Obj)) ∈ (q, ({ cls := .type "tuple", data := .seq #[.int k x, b] } : Obj)) :: R' := by
  intro j v hv
  by_cases hj : j < i
  · rw [List.getElem?_append_left (by omega)] at hv
    obtain ⟨t, k', x', b', e1, e2, e3⟩ := h j v hv
    exact ⟨t, k', x', b', e1, by rw [List.getElem?_append_left (by omega)]; exact e2, .tail _ e3⟩
  · have hj2 : j = i := by
      have := (List.getElem?_eq_some_iff.mp hv).1
      simp at this
      omega
    subst hj2
    rw [List.getElem?_append_right (by omega)] at hv
    have e : v = .ref q := by simp [hy] at hv; exact hv.symm
    exact ⟨q, k, x, b, e, by rw [List.getElem?_append_right (by omega)]; simp [hp], .head _⟩
theorem stored_pos {kvs : List (Int × Value)} {k : Int} {v : Value} : 0 < (stored kvs k v).length := by
  unfold stored
  split
  · rename_i h
    rw [List.length_map]
    cases kvs with
    | nil => simp at h
    | cons _ _ => simp
  · rw [List.length_append]; simp
theorem storedAll_pos {ps : List (Int × Value)} (h : 0 < ps.length) : 0 < (storedAll ps).length := by
  rcases List.eq_nil_or_concat ps with rfl | ⟨l, p, rfl⟩
  · simp at h
  · rw [List.concat_eq_append, storedAll_snoc]; exact stored_pos
theorem dict_is {K : Type} [DecidableEq K] {prog : Program} {w : World} {knd : KeyKind prog w K} {o : Obj} {kvs : List (K × Value)} (h : o.IsDictOf knd kvs) : o.cls = .type "dict" := by
  obtain ⟨es, ep, hc, _⟩ := h
  exact hc.1
theorem ne3 {x L : Addr} (h : x < L) : L + 1 + 1 + 1 ≠ x ∧ L + 1 + 1 ≠ x ∧ L + 1 ≠ x :=
  have h' : @LT.lt Nat _ x L := h
  ⟨Nat.ne_of_gt (by omega), Nat.ne_of_gt (by omega), Nat.ne_of_gt (by omega)⟩
def AkL (w : World) (X : Fx) (a : Ab) (dr : Int) (la : Value) (p1 : Int) (t1 t2 tN : Tok) (le th rcv : Value) (ow os : Obj) (R : List (Addr × Obj)) (c1 c2 c3 : Addr) (oc oc2 oc3 : Obj) (q : Addr × Obj) (ns' : List Int) (i : Nat) (m₁ : Str → Option Value) (nw : List (Addr × Obj)) : Prop :=
  ∃ (S W f cr : Int) (tW tf tc to : Tok) (oo : Obj) (ens : Array Value) (ke : Nat), S = (((pksOf a.ps ns').take i).map (·.z)).sum ∧ S ≤ 100 * (i : Int) ∧ 0 ≤ S ∧ m₁ (Str.ofString "octets") = some (.int S to) ∧ a.W ≤ W ∧ W ≤ a.W + S ∧ f = a.f - S ∧ 0 ≤ cr ∧ cr < W ∧
    oo.IsDictOf (intKind PySem.Challenge.rw_pb0526_01.row.prog w) (outOf (keepN a.ps (ns'.take i))) ∧ IntsAre ens.toList (a.ends ++ ns'.take i) ∧
    nw = q :: (c1, oc) :: (c2, oc2) :: (c3, oc3) :: (mains w X { a with dr := dr, la := la, W := W, f := f, cr := cr } p1 t1 t2 tN le tW tf tc th rcv ow os oo ens ke ++ R)
theorem Ok.setdr {a : Ab} (h : Ok a) {dr : Int} (hd : 0 ≤ dr) : Ok { a with dr := dr } := ⟨h.al, h.qs, h.f, h.perm, h.W, h.Wu, h.cr, h.cu, h.z, hd, h.N⟩
theorem cls_ne {h₀ h : Heap} {L a b : Addr} {o o' : Obj} {news : List (Addr × Obj)} (N : News h₀ L h news) (ha : (a, o) ∈ news) (hb : (b, o') ∈ news) (hc : o.cls ≠ o'.cls) : a ≠ b := by
  rintro rfl
  have h1 := (N _ ha).1
  have h2 := (N _ hb).1
  rw [h1] at h2
  exact hc (by cases h2; rfl)
theorem Spec.use2 {w : World} {f : Addr} {D U : Nat} {vs : List Value} {mine : List (Addr × Obj)} {Ro : Heap → Prop} {Post : Value → List (Addr × Obj) → Prop} (H : Spec w f D U vs mine Ro Post)
    {dp un : Nat} {gd : Option (List Code)} {cn : Str} {cs : Scope} {a : Addr} {ccd : Value} {cl : List (Str × Addr)} {outer : List Env} {A₀ : Around} {base h₀ : Heap} {L : Addr} {m : Str → Option Value} {s : Shared} {Q E : Value → Shared → Prop}
    {mean : ExcName → Option Value} {mg mb : Str → Option Value} {news : List (Addr × Obj)} (rest : List (Addr × Obj))
    (hB : Below A₀ base outer h₀) (hF : Fr h₀ L s.heap m) (hX : (hd.heap_1 w.params).In h₀) (hN : News h₀ L s.heap news) (hs : ∀ p ∈ mine, p ∈ news) (hr : ∀ p ∈ rest, p ∈ news) (hA : Apart rest mine)
    (hR : ∀ g : Heap, h₀.StaysIn g → (∀ p ∈ rest, g.get? p.1 = some p.2) → Ro g) (hT : Top q1 (looseW q1 []) mean mg mb h₀) (hk : cs.kind = .function) (hd : dp + D < recursionLimit) (hu : un + U < cLine)
    (ret : ∀ v post h' tk', Fr h₀ L h' m → News h₀ L h' (post ++ rest) → Apart rest post → Post v post → Q v { s with heap := h', toks := tk' }) :
    wpAny (model PySem.Challenge.rw_pb0526_01.row.prog w) (ktrTop dp un gd cn cs L a ccd cl outer) (call (.ref f) vs) Q E s :=
  H dp un gd cn cs a ccd cl outer A₀ base h₀ L m s Q E mean mg mb news rest hB hF hX hN hs hr hA hR hT hk hd hu ret
local macro_rules | `(tactic| walk_at "CompSrc") => `(tactic| (k_here; refine Stop.out ?_))
local macro_rules | `(tactic| walk_at "CompSrcT") => `(tactic| (k_here; refine Stop.out ?_))
local macro_rules | `(tactic| k_handed) => `(tactic| (refine handed_opt ?hnd; (case hnd => assumption)))
local macro_rules | `(tactic| walk_at "call type:dict") => `(tactic| (k_here; refine Stop.out ?_))
set_option hygiene false
local macro_rules | `(tactic| walk_at "call ref") => `(tactic| (k_here; (with_reducible show wpAny _ _ (call (Value.ref 358) _) _ _ _); refine Stop.out ?_))
local macro_rules | `(tactic| walk_at "call ref") => `(tactic| (k_here; (with_reducible show wpAny _ _ (call (Value.ref 283) _) _ _ _); refine Stop.out ?_))
local macro_rules | `(tactic| walk_at "call ref") => `(tactic| (k_here; (with_reducible show wpAny _ _ (call (Value.ref 276) _) _ _ _); refine Stop.out ?_))
set_option hygiene true

theorem akj_elim {w : World} {X : Fx} {a : Ab} {tN : Tok} {le : Value} {tW tf tc : Tok} {th rcv : Value} {ow ost oou : Obj} {ens : Array Value} {ke : Nat} {c1 c2 c3 : Addr} {oc2 oc3 : Obj} {R : List (Addr × Obj)} {i : Nat} {ys : List Value} {nw : List (Addr × Obj)} {P : Prop} (h : AkJ w X a tN le tW tf tc th rcv ow ost oou ens ke c1 c2 c3 oc2 oc3 R i ys nw)
    (k : ∀ (p0 : Int) (t0 t2 : Tok) (oc : Obj) (R' : List (Addr × Obj)) (ps : List (Int × Value)) (dr : Int), 0 ≤ p0 → p0 < 1009 → oc.data = .cell (some (.ref X.asp)) → dr = a.dr + 1 + i → ps.length = i → ys.length = i →
      (∀ (j : Nat) (v : Value), ys[j]? = some v → ∃ t k x b, v = .ref t ∧ ps[j]? = some (k, b) ∧ (t, ({ cls := .type "tuple", data := .seq #[.int k x, b] } : Obj)) ∈ R') → (∀ p ∈ R, p ∈ R') → (∀ p ∈ R', p.1 ≠ X.ap) → (∀ p ∈ R', p.1 ≠ X.aw) → (∀ p ∈ R', p.1 ≠ X.asp) → (∀ p ∈ R', p.1 ≠ X.dsp) → (∀ p ∈ R', p.1 ≠ X.ast) → (∀ p ∈ R', p.1 ≠ X.act) → (∀ p ∈ R', p.1 ≠ X.dct) → (∀ p ∈ R', p.1 ≠ X.aou) → (∀ p ∈ R', p.1 ≠ X.aen) → (∀ p ∈ R', p.1 ≠ c1) → (∀ p ∈ R', p.1 ≠ c2) → (∀ p ∈ R', p.1 ≠ c3) → nw = (c1, oc) :: (c2, oc2) :: (c3, oc3) :: (mains w X { a with dr := dr } p0 t0 t2 tN le tW tf tc th rcv ow ost oou ens ke ++ R') → P) : P := by
  refine gen_P fun G kG => ?_
  obtain ⟨p1, t1, t2, oc, R', ps, dr, ⟨hp1, hp1'⟩, hoc, hdr, hps, hzs, hit, hsub, ⟨r1, r2, r3, r4, r5, r6, r7, r8, r9⟩, ⟨hR3, hR2, hR1⟩, e⟩ := h
  exact kG (k p1 t1 t2 oc R' ps dr hp1 hp1' hoc hdr hps hzs hit hsub r1 r2 r3 r4 r5 r6 r7 r8 r9 hR3 hR2 hR1 e)
theorem akj_mk {w : World} {X : Fx} {a : Ab} {tN : Tok} {le : Value} {tW tf tc : Tok} {th rcv : Value} {ow ost oou : Obj} {ens : Array Value} {ke : Nat} {c1 c2 c3 : Addr} {oc2 oc3 : Obj} {R : List (Addr × Obj)} {i : Nat} {ys : List Value} {p0 : Int} {t0 t2 : Tok} {oc : Obj} {R' : List (Addr × Obj)} {ps : List (Int × Value)} {dr : Int} (h1 : 0 ≤ p0) (h2 : p0 < 1009) (h3 : oc.data = .cell (some (.ref X.asp))) (h4 : dr = a.dr + 1 + i) (h5 : ps.length = i) (h6 : ys.length = i)
    (h7 : (∀ (j : Nat) (v : Value), ys[j]? = some v → ∃ t k x b, v = .ref t ∧ ps[j]? = some (k, b) ∧ (t, ({ cls := .type "tuple", data := .seq #[.int k x, b] } : Obj)) ∈ R')) (h8 : ∀ p ∈ R, p ∈ R') (h9 : Off X R') (h10 : (∀ p ∈ R', p.1 ≠ c1) ∧ (∀ p ∈ R', p.1 ≠ c2) ∧ ∀ p ∈ R', p.1 ≠ c3) :
    AkJ w X a tN le tW tf tc th rcv ow ost oou ens ke c1 c2 c3 oc2 oc3 R i ys ((c1, oc) :: (c2, oc2) :: (c3, oc3) :: (mains w X { a with dr := dr } p0 t0 t2 tN le tW tf tc th rcv ow ost oou ens ke ++ R')) :=
  ⟨p0, t0, t2, oc, R', ps, dr, ⟨h1, h2⟩, h3, h4, h5, h6, h7, h8, h9, h10, rfl⟩
theorem off3_ak {I C D x : Addr} {o : Obj} {q1 q2 q3 : Addr × Obj} {M M' R : List (Addr × Obj)} (h : LCg.Off3 I C D (q1 :: q2 :: q3 :: (M ++ R))) (e : M'.map (·.1) = M.map (·.1)) (h1 : x ≠ I) (h2 : x ≠ C) (h3 : x ≠ D) :
    LCg.Off3 I C D (q1 :: q2 :: q3 :: (M' ++ (x, o) :: R)) := by
  refine LCg.Off3.of fun p hp => ?_
  simp only [List.mem_cons, List.mem_append] at hp
  rcases hp with rfl | rfl | rfl | hp | rfl | hp
  · exact LCg.Off3.mem h _ (.head _)
  · exact LCg.Off3.mem h _ (.tail _ (.head _))
  · exact LCg.Off3.mem h _ (.tail _ (.tail _ (.head _)))
  · have hm : p.1 ∈ M.map (·.1) := e ▸ List.mem_map_of_mem hp
    obtain ⟨y, hy, ey⟩ := List.mem_map.mp hm
    have := LCg.Off3.mem h y (.tail _ (.tail _ (.tail _ (List.mem_append_left _ hy))))
    rw [← ey]; exact this
  · exact ⟨h1, h2, h3⟩
  · exact LCg.Off3.mem h _ (.tail _ (.tail _ (.tail _ (List.mem_append_right _ hp))))
local macro_rules | `(tactic| k_ne) => `(tactic| first | assumption | exact Ne.symm (by assumption) | (refine' ne_off1 ?neh ?nem; (case neh => with_reducible assumption); (case nem => k_dflt k_mem)) | (refine' Ne.symm (ne_off1 ?neh ?nem); (case neh => with_reducible assumption); (case nem => k_dflt k_mem)) | (refine' ne_off2 ?neh ?nem; (case neh => with_reducible assumption); (case nem => k_dflt k_mem)) | (refine' Ne.symm (ne_off2 ?neh ?nem); (case neh => with_reducible assumption); (case nem => k_dflt k_mem)) | (refine' ne_off3 ?neh ?nem; (case neh => with_reducible assumption); (case nem => k_dflt k_mem)) | (refine' Ne.symm (ne_off3 ?neh ?nem); (case neh => with_reducible assumption); (case nem => k_dflt k_mem)) | (refine' ne_lt ?neh ?nem; (case neh => with_reducible assumption); (case nem => k_dflt k_mem)) | (refine' Ne.symm (ne_lt ?neh ?nem); (case neh => with_reducible assumption); (case nem => k_dflt k_mem)) | (refine' ne_mem ?neh ?nem; (case neh => with_reducible assumption); (case nem => k_dflt k_mem)) | (refine' Ne.symm (ne_mem ?neh ?nem); (case neh => with_reducible assumption); (case nem => k_dflt k_mem)) | (refine' ne_lt1 ?neh; (case neh => with_reducible assumption)) | (refine' Ne.symm (ne_lt1 ?neh); (case neh => with_reducible assumption)) | (refine' ne_lt2 ?neh ?nek ?nem; (case nek => with_reducible assumption); (case neh => with_reducible assumption); (case nem => k_dflt k_mem)) | (refine' Ne.symm (ne_lt2 ?neh ?nek ?nem); (case nek => with_reducible assumption); (case neh => with_reducible assumption); (case nem => k_dflt k_mem)) | (refine' ne_c1 ?neh ?nem; (case neh => with_reducible assumption); (case nem => k_dflt k_mem)) | (refine' Ne.symm (ne_c1 ?neh ?nem); (case neh => with_reducible assumption); (case nem => k_dflt k_mem)) | (refine' ne_c2 ?neh ?nem; (case neh => with_reducible assumption); (case nem => k_dflt k_mem)) | (refine' Ne.symm (ne_c2 ?neh ?nem); (case neh => with_reducible assumption); (case nem => k_dflt k_mem)) | (refine' ne_c3 ?neh ?nem; (case neh => with_reducible assumption); (case nem => k_dflt k_mem)) | (refine' Ne.symm (ne_c3 ?neh ?nem); (case neh => with_reducible assumption); (case nem => k_dflt k_mem)) | (refine neN ?_; (try dsimp only); omega))
theorem spec_law_acks (w : World) (X : Fx) (a : Ab) (nw : List (Addr × Obj)) (ys : List Value) (ns : List Int) (hi : IntsAre ys ns) (hlen : ns.length ≤ 24) (h9 : Nine X) (hL : Lay w X a nw) (hO : Ok a) (hd : a.dr + 6 < 2 ^ 40) :
    Spec w 363 150 1800 [.ref X.ap, .ref X.aw] nw (fun g => g.IsList X.asc ys.toArray) (fun v post => ∃ a', v = .bool true ∧ Lay w X a' post ∧ Ok a' ∧ a'.N = a.N ∧ a'.dr ≤ a.dr + 5 ∧ a'.now = a.now) := by
  refine gen_P fun G9 kG9 => ?_
  rcases X with ⟨ap, asc, aw, asp, dsp, ast, act, dct, aou, aen, T, Tc, nm, ak, lt, rc, ls, lm, fu, un, wn, hn, ec, gn, c, tg⟩
  refine Lay.elim' hL fun p0 t0 t2 tN le tW tf tc th rcv tn ow ost oou ens ke R hp0 hp0' hth hrc hla hW hS hU hE hP r1 r2 r3 r4 r5 r6 r7 r8 r9 enw => ?_
  refine Nine.elim' h9 fun h01 h02 h03 h04 h05 h06 h07 h08 h12 h13 h14 h15 h16 h17 h18 h23 h24 h25 h26 h27 h28 h34 h35 h36 h37 h38 h45 h46 h47 h48 h56 h57 h58 h67 h68 h78 lw ls' lo' => ?_
  clear hL h9
  cases enw
  refine kG9 ?_
  clear kG9
  have hWs := hW
  dsimp only [mains, List.cons_append, List.nil_append]
  have hdr0 := hO.dr
  have hW0 := hO.W
  have hc0 := hO.cr
  have hc1 := hO.cu
  have hlp : a.ps.length ≤ 61 := by have := hO.len; have := hO.N; omega
  have hle : a.ends.length ≤ 61 := by have := hO.len; have := hO.N; omega
  have hNu := hO.N
  have hf0 := hO.f
  rw [hO.qs] at hU
  unfold Spec
  k_fill
  intro dp9z un9z gd9z cn9z cs9z a9z ccd9z cl9z outer9z A₀9z base9z h₀9z L9z m9z s9z Q9z E9z mean9z mg9z mb9z news9z rest9z hB9z hF9z hX9z hN9z hsub9z hrs9z hAp9z hRo9z hT9z hk9z hd9z hu9z hret9z
  first
  | (k_dflt (refine' fr_call hB9z hF9z hX9z hN9z hsub9z hrs9z hAp9z hT9z rfl rfl hk9z ?k6 ?k7 ?k8 ?k9 ?kB hret9z ?_ ?c2 ?c3 ?c4 ?c5; (case k6 => k_is); (case k7 => k_is); (case k8 => ktr_room); (case k9 => exact BindsTo.of_eq rfl); (case c5 => decide); (case kB => exact locs rfl); (case c2 => exact rfl); (case c3 => exact rfl); (case c4 => exact rfl))
     k_whole
     intro g9z' L9z' h9z' tk9z' st9z' hR9z' F9z' N9z' B9z' X9z' T9z'
     have hRo9z' := hRo9z g9z' st9z' hR9z'
     (try dsimp only at hRo9z')
     clear hB9z hF9z hX9z hN9z hsub9z hrs9z hAp9z hRo9z hT9z hret9z st9z' hR9z')
  | (k_dflt (refine' fr_callC hB9z hF9z hX9z hN9z hsub9z hrs9z hAp9z hT9z rfl rfl hk9z ?k6 ?k7 ?k8 ?k9 ?kB ?kD hret9z ?_ ?c2 ?c3 ?c4; (case k6 => k_is); (case k7 => k_is); (case k8 => ktr_room); (case k9 => exact BindsTo.of_eq rfl); (case kB => exact rfl); (case kD => decide +kernel); (case c2 => exact rfl); (case c3 => exact rfl); (case c4 => exact rfl))
     k_whole
     intro g9z' L9z' h9z' tk9z' cells9z' st9z' hR9z' F9z' N9z' Y9z' B9z' X9z' T9z' l19z
     have hRo9z' := hRo9z g9z' st9z' hR9z'
     (try dsimp only at hRo9z')
     clear hB9z hF9z hX9z hN9z hsub9z hrs9z hAp9z hRo9z hT9z hret9z st9z' hR9z'
     (try k_lt l19z)
     k_cells Y9z'
     (try dsimp only [List.cons_append, List.nil_append] at N9z'))
  (try dsimp only)
  (try k_fold)
  refine gen_Q fun Q0 hQ0 => ?_
  rename (∀ p : Addr × Obj, p ∈ (_ :: _ :: _ :: _ :: _ :: _ :: _ :: _ :: _ :: R) → p.1 < _) => hl0
  have hl1 := allLt_of hl0
  simp only [AllLt, and_true] at hl1
  have hRL := hl1.2.2.2.2.2.2.2.2.2
  rename_i oc1 oc2 oc3 d1 d2 d3
  have hR1 : ∀ p ∈ R, p.1 ≠ L9z' + 1 := allLt_ne (Nat.le_succ _) hRL
  have hR2 : ∀ p ∈ R, p.1 ≠ L9z' + 1 + 1 := allLt_ne (Nat.le_trans (Nat.le_succ _) (Nat.le_succ _)) hRL
  have hR3 : ∀ p ∈ R, p.1 ≠ L9z' + 1 + 1 + 1 := allLt_ne (Nat.le_trans (Nat.le_trans (Nat.le_succ _) (Nat.le_succ _)) (Nat.le_succ _)) hRL
  have d2' : oc2.data = .cell (some (.ref aw)) := d2
  have d3' : oc3.data = .cell (some (.ref ap)) := d3
  clear d2 d3
  (repeat' (first | (k_unfold; (try dsimp only)) | (k_end; wrow_close) | (with_reducible first | (k_here; (show wpAny _ _ (call (Value.ref 344) _) _ _ _); k_dflt (refine' Spec.useG (spec_draw _ _ _ _ _ _ _ _ _ _ _ _ ?dhi ?dhl ?dp0 ?dp1 ?dp2 ?dp3 ?dm0 ?dm1) ?zB ?zF ?zX ?zN ?zP ?zA ?zR ?zT ?zk ?zd ?zu ?_); top_raise; (case zP => ktr_rel); (case zR => (intro g1 st1 _; exact isList_stays st1 (by assumption))); (case dhi | dhl => assumption); (case dp0 | dp1 | dp2 | dp3 | dm0 | dm1 => omega); (case zA => ktr_unf); top_raise0; top_args; k_dflt (obtain ⟨r', tr', p0', t0', t2', e1', hr0', hr1', hp0', hp1', e2'⟩ := P'; top_argsB)) | (k_here; (show wpAny _ _ (call (Value.ref 117) _) _ _ _); k_dflt (refine' Spec.useG (spec_acked _ _ _ _ _ _ _ _ _ _ _ _ _ _ _ _ _ _ _ _ ?kth ?krc ?kne ?kW ?kW2 ?kz ?kz2 ?kc ?kc2) ?zB ?zF ?zX ?zN ?zP ?zA ?zR ?zT ?zk ?zd ?zu ?_); top_raise; (case zP => ktr_rel); (case kth | krc => assumption); (case kne => k_ne); (case kW | kW2 | kz | kz2 | kc | kc2 => omega); top_raiseB; top_args; k_dflt (obtain ⟨Wd', cr', ta', tb', tc'', e1', hW1', hW2', hc1', hc2', e2'⟩ := P'; top_argsB)) | (k_here; (show wpAny _ _ (call (Value.ref 304) _) _ _ _); k_dflt (refine' Spec.useG (spec_note_largest _ _ _ _ _ _ _ _ _ _ _ _ _ _ _ _ _ _ _ _ _ _ ?nla ?nlh) ?zB ?zF ?zX ?zN ?zP ?zA ?zR ?zT ?zk ?zd ?zu ?_); top_raise; (case zP => ktr_rel); (case nla => assumption); (case nlh => k_ne); top_raiseB; top_args; k_dflt (obtain ⟨l9, t9, e1', hl9a, hl9b, e2'⟩ := P'; top_argsB)) | (k_here; (show wpAny _ _ (call (Value.builtin "max") [Value.ref _]) _ _ _); k_dflt (refine' max_dict rfl ?mxF ?mxN ?mxd ?mxD ?mxl ?mxn ?_; (case mxF => k_asm); (case mxN => k_asm); (case mxd => k_mem); (case mxD => assumption); (case mxl => assumption); (case mxn => assumption)); intro M' tM' h' tk' F' N' hM') | (k_here; (show wpAny _ _ (call (Value.builtin "list.append") [Value.ref _, _]) _ _ _); k_dflt (refine' append_K ?k1 ?k2 ?k3 ?_ ?z; (case k1 => k_asm); (case k2 => k_asm); (case k3 => k_upd); (case z => (rw [sizeLine_eq]; omega)); k_whole); intro h' F' N') | (k_here; (show wpAny _ _ (call (Value.builtin "dict.pop") [Value.ref _, Value.int _ _]) _ _ _); k_dflt (refine' kob_pop (knd := PySem.intKind _ _) (more := []) ?F ?N ?U ?d (intKind_is _ _ _ _) (.inl rfl) (by rfl) (PySem.F.args_dict_pop_2 _ _) ?l ?z ?_; (case F => k_asm); (case N => k_asm); (case U => k_updF); (case d => assumption); (case l => assumption); (case z => (rw [sizeLine_eq]; assumption))); intro h' o' F' N' hd'; (try dsimp only at N')) | (k_here; (show wpAny _ _ (compareOp CmpOp.NotIn (Value.int _ _) (Value.ref _)) _ _ _); k_dflt (refine' kdg_notin (knd := PySem.intKind _ _) ?sN ?sp ?sd ?so (intKind_is _ _ _ _) true ?sv ?_; (case sN => k_asm); (case sp => k_mem); (case sd => assumption); (case so => assumption); (case sv => (rename valueAt _ _ = some _ => hv9; rw [hv9]; rfl)))) | (k_here; (show wpAny _ _ (eval (Expr.ListComp _ [⟨_, _, [_], _⟩] _ _) _) _ _ _); k_dflt (refine LCt.ListComp_T (F₀ := by k_asm) (by with_unfolding_all rfl) (by decide) (by rfl) (by decide) (by rfl) ?_)) | (k_here; (show wpAny _ _ (eval (Expr.ListComp _ [⟨_, _, [], _⟩] _ _) _) _ _ _); k_dflt (refine LCg.ListComp_U (F₀ := by k_asm) (by with_unfolding_all rfl) (by decide) (by rfl) (by decide) (by rfl) ?_)) | (k_here; (show wpAny _ _ (subscriptTail _ _ (Value.ref _) (Value.str _ _)) _ _ _); k_dflt (refine' kda_item (knd := PySem.strKind _ _) ?N ?p ?d (strKind_is _ _ _ _) ?l ?_; (case N => k_asm); (case p => k_mem); (case d => assumption); (case l => exact rfl)))) | walk1 | dsimp only | (leave1; try dsimp only) | fail "no step"))
  all_goals (try dsimp only)
  · exact hQ0 _ _ (leaf_lay (X := (⟨ap, asc, aw, asp, dsp, ast, act, dct, aou, aen, T, Tc, nm, ak, lt, rc, ls, lm, fu, un, wn, hn, ec, gn, c, tg⟩ : Fx)) (a := a) (by k_asm) (by k_asm) (lay_in (R := R) (by k_asm) (by dsimp only; k_mem) (by dsimp only; k_mem) (by dsimp only; k_mem) (by dsimp only; k_mem) (by dsimp only; k_mem) (by dsimp only; k_mem) (by dsimp only; k_mem) (by dsimp only; k_mem) (by dsimp only; k_mem) (by tb_rel) ⟨by assumption, by assumption⟩ hth hrc hla hW hS (by rw [hO.qs]; exact hU) hE hP ⟨r1, r2, r3, r4, r5, r6, r7, r8, r9⟩ rfl rfl rfl rfl rfl rfl rfl) fun nw h => ⟨a, rfl, h, hO, rfl, by omega, rfl⟩)
  rename IsRange _ _ _ _ _ _ _ _ => hra
  rename Obj.data _ = Data.cell (some (Value.ref asp)) => hoc
  have N5 := News.sub (l' := (L9z' + 1 + 1 + 1, _) :: (L9z' + 1 + 1, oc2) :: (L9z' + 1, oc3) :: (mains w (⟨ap, asc, aw, asp, dsp, ast, act, dct, aou, aen, T, Tc, nm, ak, lt, rc, ls, lm, fu, un, wn, hn, ec, gn, c, tg⟩ : Fx) { a with dr := a.dr + 1 } p0' t0' t2' tN le tW tf tc th rcv ow ost oou ens ke ++ R)) (by k_asm) (by simp only [mains, List.cons_append, List.nil_append]; tb_rel)
  unfold Stop
  refine LCg.CompSrc.range (n := (1 + r' - 0 : Int).toNat) rfl (by k_asm) N5 hra (small_one (by decide) (by decide) (by omega) (by omega)) (rangeSize_nat _ _) (by rw [sizeLine_eq]; omega) fun g₂ => ?_
  refine comp_inv (AkJ w (⟨ap, asc, aw, asp, dsp, ast, act, dct, aou, aen, T, Tc, nm, ak, lt, rc, ls, lm, fu, un, wn, hn, ec, gn, c, tg⟩ : Fx) a tN le tW tf tc th rcv ow ost oou ens ke _ _ _ oc2 oc3 R) (akj_mk (ps := []) (R' := R) (dr := a.dr + 1) hp0' hp1' hoc (by omega) rfl rfl (fun j v h => by simp at h) (fun p hp => hp) ⟨r1, r2, r3, r4, r5, r6, r7, r8, r9⟩ ⟨hR3, hR2, hR1⟩) ?step ?done
  case step =>
    intro i zs nw v I oI C oC D m₂ h tk E' hin hJ hPi hC hx F N off hne'
    refine gen_P fun G9 kG9 => ?_
    refine akj_elim hJ fun p1 t1 t2 oc R' ps dr hp1 hp1' hoc hdr hps hzs hit hsub r1 r2 r3 r4 r5 r6 r7 r8 r9 hR3 hR2 hR1 enw => ?_
    cases enw
    rcases hPi with ⟨tv, rfl⟩
    refine kG9 ?_
    clear kG9
    dsimp only at r1 r2 r3 r4 r5 r6 r7 r8 r9 hoc
    have off0 := off
    dsimp only [mains, List.cons_append, List.nil_append] at N off ⊢
    have hi4 : (i : Int) < 4 := by omega
    (repeat' (first | (k_unfold; (try dsimp only)) | (k_end; wrow_close) | (with_reducible first | (k_here; (show wpAny _ _ (call (Value.ref 344) _) _ _ _); k_dflt (refine' Spec.useG (spec_draw _ _ _ _ _ _ _ _ _ _ _ _ ?dhi ?dhl ?dp0 ?dp1 ?dp2 ?dp3 ?dm0 ?dm1) ?zB ?zF ?zX ?zN ?zP ?zA ?zR ?zT ?zk ?zd ?zu ?_); top_raise; (case zP => ktr_rel); (case zR => (intro g1 st1 _; exact isList_stays st1 (by assumption))); (case dhi | dhl => assumption); (case dp0 | dp1 | dp2 | dp3 | dm0 | dm1 => omega); (case zA => ktr_unf); top_raise0; top_args; k_dflt (obtain ⟨r', tr', p0', t0', t2', e1', hr0', hr1', hp0', hp1', e2'⟩ := P'; top_argsB)) | (k_here; (show wpAny _ _ (call (Value.ref 117) _) _ _ _); k_dflt (refine' Spec.useG (spec_acked _ _ _ _ _ _ _ _ _ _ _ _ _ _ _ _ _ _ _ _ ?kth ?krc ?kne ?kW ?kW2 ?kz ?kz2 ?kc ?kc2) ?zB ?zF ?zX ?zN ?zP ?zA ?zR ?zT ?zk ?zd ?zu ?_); top_raise; (case zP => ktr_rel); (case kth | krc => assumption); (case kne => k_ne); (case kW | kW2 | kz | kz2 | kc | kc2 => omega); top_raiseB; top_args; k_dflt (obtain ⟨Wd', cr', ta', tb', tc'', e1', hW1', hW2', hc1', hc2', e2'⟩ := P'; top_argsB)) | (k_here; (show wpAny _ _ (call (Value.ref 304) _) _ _ _); k_dflt (refine' Spec.useG (spec_note_largest _ _ _ _ _ _ _ _ _ _ _ _ _ _ _ _ _ _ _ _ _ _ ?nla ?nlh) ?zB ?zF ?zX ?zN ?zP ?zA ?zR ?zT ?zk ?zd ?zu ?_); top_raise; (case zP => ktr_rel); (case nla => assumption); (case nlh => k_ne); top_raiseB; top_args; k_dflt (obtain ⟨l9, t9, e1', hl9a, hl9b, e2'⟩ := P'; top_argsB)) | (k_here; (show wpAny _ _ (call (Value.builtin "max") [Value.ref _]) _ _ _); k_dflt (refine' max_dict rfl ?mxF ?mxN ?mxd ?mxD ?mxl ?mxn ?_; (case mxF => k_asm); (case mxN => k_asm); (case mxd => k_mem); (case mxD => assumption); (case mxl => assumption); (case mxn => assumption)); intro M' tM' h' tk' F' N' hM') | (k_here; (show wpAny _ _ (call (Value.builtin "list.append") [Value.ref _, _]) _ _ _); k_dflt (refine' append_K ?k1 ?k2 ?k3 ?_ ?z; (case k1 => k_asm); (case k2 => k_asm); (case k3 => k_upd); (case z => (rw [sizeLine_eq]; omega)); k_whole); intro h' F' N') | (k_here; (show wpAny _ _ (call (Value.builtin "dict.pop") [Value.ref _, Value.int _ _]) _ _ _); k_dflt (refine' kob_pop (knd := PySem.intKind _ _) (more := []) ?F ?N ?U ?d (intKind_is _ _ _ _) (.inl rfl) (by rfl) (PySem.F.args_dict_pop_2 _ _) ?l ?z ?_; (case F => k_asm); (case N => k_asm); (case U => k_updF); (case d => assumption); (case l => assumption); (case z => (rw [sizeLine_eq]; assumption))); intro h' o' F' N' hd'; (try dsimp only at N')) | (k_here; (show wpAny _ _ (compareOp CmpOp.NotIn (Value.int _ _) (Value.ref _)) _ _ _); k_dflt (refine' kdg_notin (knd := PySem.intKind _ _) ?sN ?sp ?sd ?so (intKind_is _ _ _ _) true ?sv ?_; (case sN => k_asm); (case sp => k_mem); (case sd => assumption); (case so => assumption); (case sv => (rename valueAt _ _ = some _ => hv9; rw [hv9]; rfl)))) | (k_here; (show wpAny _ _ (eval (Expr.ListComp _ [⟨_, _, [_], _⟩] _ _) _) _ _ _); k_dflt (refine LCt.ListComp_T (F₀ := by k_asm) (by with_unfolding_all rfl) (by decide) (by rfl) (by decide) (by rfl) ?_)) | (k_here; (show wpAny _ _ (eval (Expr.ListComp _ [⟨_, _, [], _⟩] _ _) _) _ _ _); k_dflt (refine LCg.ListComp_U (F₀ := by k_asm) (by with_unfolding_all rfl) (by decide) (by rfl) (by decide) (by rfl) ?_)) | (k_here; (show wpAny _ _ (subscriptTail _ _ (Value.ref _) (Value.str _ _)) _ _ _); k_dflt (refine' kda_item (knd := PySem.strKind _ _) ?N ?p ?d (strKind_is _ _ _ _) ?l ?_; (case N => k_asm); (case p => k_mem); (case d => assumption); (case l => exact rfl)))) | walk1 | dsimp only | (leave1; try dsimp only) | fail "no step"))
    all_goals (try dsimp only)
    refine' CompEnd.intro ?qF ?qN ((L9z' + 1 + 1 + 1, oc) :: (L9z' + 1 + 1, oc2) :: (L9z' + 1, oc3) :: (mains w (⟨ap, asc, aw, asp, dsp, ast, act, dct, aou, aen, T, Tc, nm, ak, lt, rc, ls, lm, fu, un, wn, hn, ec, gn, c, tg⟩ : Fx) { a with dr := dr + 1 } p0' t0' t2' tN le tW tf tc th rcv ow ost oou ens ke ++ (_, { cls := .type "tuple", data := .seq #[.int r' tr', .bool true] }) :: R')) ?qs ?qo trivial
      (akj_mk (ps := ps ++ [(r', .bool true)]) (dr := dr + 1) hp0' hp1' hoc (by omega) (by simp [hps]) (by simp [hzs]) (akj_items hps hzs hit) (fun p hp => .tail _ (hsub p hp)) ?qoff ?qc)
    case qF => k_asm
    case qN => k_asm
    case qs => simp only [mains, List.cons_append, List.nil_append]; tb_rel
    case qoff => exact off_cons ⟨by k_ne, by k_ne, by k_ne, by k_ne, by k_ne, by k_ne, by k_ne, by k_ne, by k_ne⟩ ⟨r1, r2, r3, r4, r5, r6, r7, r8, r9⟩
    case qc => exact ⟨List.forall_mem_cons.mpr ⟨by k_ne, hR3⟩, List.forall_mem_cons.mpr ⟨by k_ne, hR2⟩, List.forall_mem_cons.mpr ⟨by k_ne, hR1⟩⟩
    case qo => exact off3_ak off0 rfl (by k_ne) (by k_ne) (by k_ne)
  case done =>
    intro zs nw hJ
    refine gen_P fun G9 kG9 => ?_
    refine akj_elim hJ fun p1 t1 t2 oc R' ps dr hp1 hp1' hoc hdr hps hzs hit hsub r1 r2 r3 r4 r5 r6 r7 r8 r9 hR3 hR2 hR1 enw => ?_
    cases enw
    refine kG9 ?_
    clear kG9
    dsimp only at r1 r2 r3 r4 r5 r6 r7 r8 r9 hoc
    have hn4 : ps.length ≤ 4 ∧ 0 < ps.length := by omega
    dsimp only [mains, List.cons_append, List.nil_append]
    (repeat' (first | (k_unfold; (try dsimp only)) | (k_end; wrow_close) | (with_reducible first | (k_here; (show wpAny _ _ (call (Value.ref 344) _) _ _ _); k_dflt (refine' Spec.useG (spec_draw _ _ _ _ _ _ _ _ _ _ _ _ ?dhi ?dhl ?dp0 ?dp1 ?dp2 ?dp3 ?dm0 ?dm1) ?zB ?zF ?zX ?zN ?zP ?zA ?zR ?zT ?zk ?zd ?zu ?_); top_raise; (case zP => ktr_rel); (case zR => (intro g1 st1 _; exact isList_stays st1 (by assumption))); (case dhi | dhl => assumption); (case dp0 | dp1 | dp2 | dp3 | dm0 | dm1 => omega); (case zA => ktr_unf); top_raise0; top_args; k_dflt (obtain ⟨r', tr', p0', t0', t2', e1', hr0', hr1', hp0', hp1', e2'⟩ := P'; top_argsB)) | (k_here; (show wpAny _ _ (call (Value.ref 117) _) _ _ _); k_dflt (refine' Spec.useG (spec_acked _ _ _ _ _ _ _ _ _ _ _ _ _ _ _ _ _ _ _ _ ?kth ?krc ?kne ?kW ?kW2 ?kz ?kz2 ?kc ?kc2) ?zB ?zF ?zX ?zN ?zP ?zA ?zR ?zT ?zk ?zd ?zu ?_); top_raise; (case zP => ktr_rel); (case kth | krc => assumption); (case kne => k_ne); (case kW | kW2 | kz | kz2 | kc | kc2 => omega); top_raiseB; top_args; k_dflt (obtain ⟨Wd', cr', ta', tb', tc'', e1', hW1', hW2', hc1', hc2', e2'⟩ := P'; top_argsB)) | (k_here; (show wpAny _ _ (call (Value.ref 304) _) _ _ _); k_dflt (refine' Spec.useG (spec_note_largest _ _ _ _ _ _ _ _ _ _ _ _ _ _ _ _ _ _ _ _ _ _ ?nla ?nlh) ?zB ?zF ?zX ?zN ?zP ?zA ?zR ?zT ?zk ?zd ?zu ?_); top_raise; (case zP => ktr_rel); (case nla => assumption); (case nlh => k_ne); top_raiseB; top_args; k_dflt (obtain ⟨l9, t9, e1', hl9a, hl9b, e2'⟩ := P'; top_argsB)) | (k_here; (show wpAny _ _ (call (Value.builtin "max") [Value.ref _]) _ _ _); k_dflt (refine' max_dict rfl ?mxF ?mxN ?mxd ?mxD ?mxl ?mxn ?_; (case mxF => k_asm); (case mxN => k_asm); (case mxd => k_mem); (case mxD => assumption); (case mxl => assumption); (case mxn => assumption)); intro M' tM' h' tk' F' N' hM') | (k_here; (show wpAny _ _ (call (Value.builtin "list.append") [Value.ref _, _]) _ _ _); k_dflt (refine' append_K ?k1 ?k2 ?k3 ?_ ?z; (case k1 => k_asm); (case k2 => k_asm); (case k3 => k_upd); (case z => (rw [sizeLine_eq]; omega)); k_whole); intro h' F' N') | (k_here; (show wpAny _ _ (call (Value.builtin "dict.pop") [Value.ref _, Value.int _ _]) _ _ _); k_dflt (refine' kob_pop (knd := PySem.intKind _ _) (more := []) ?F ?N ?U ?d (intKind_is _ _ _ _) (.inl rfl) (by rfl) (PySem.F.args_dict_pop_2 _ _) ?l ?z ?_; (case F => k_asm); (case N => k_asm); (case U => k_updF); (case d => assumption); (case l => assumption); (case z => (rw [sizeLine_eq]; assumption))); intro h' o' F' N' hd'; (try dsimp only at N')) | (k_here; (show wpAny _ _ (compareOp CmpOp.NotIn (Value.int _ _) (Value.ref _)) _ _ _); k_dflt (refine' kdg_notin (knd := PySem.intKind _ _) ?sN ?sp ?sd ?so (intKind_is _ _ _ _) true ?sv ?_; (case sN => k_asm); (case sp => k_mem); (case sd => assumption); (case so => assumption); (case sv => (rename valueAt _ _ = some _ => hv9; rw [hv9]; rfl)))) | (k_here; (show wpAny _ _ (eval (Expr.ListComp _ [⟨_, _, [_], _⟩] _ _) _) _ _ _); k_dflt (refine LCt.ListComp_T (F₀ := by k_asm) (by with_unfolding_all rfl) (by decide) (by rfl) (by decide) (by rfl) ?_)) | (k_here; (show wpAny _ _ (eval (Expr.ListComp _ [⟨_, _, [], _⟩] _ _) _) _ _ _); k_dflt (refine LCg.ListComp_U (F₀ := by k_asm) (by with_unfolding_all rfl) (by decide) (by rfl) (by decide) (by rfl) ?_)) | (k_here; (show wpAny _ _ (subscriptTail _ _ (Value.ref _) (Value.str _ _)) _ _ _); k_dflt (refine' kda_item (knd := PySem.strKind _ _) ?N ?p ?d (strKind_is _ _ _ _) ?l ?_; (case N => k_asm); (case p => k_mem); (case d => assumption); (case l => exact rfl)))) | walk1 | dsimp only | (leave1; try dsimp only) | fail "no step"))
    all_goals (try dsimp only)
    have hkl := storedAll_len ps
    have hk0 := storedAll_pos hn4.2
    unfold Stop
    refine dict_pairs (ps := ps) rfl (by k_asm) (by k_asm) (.head _) (Top.nolimit (by k_asm)) ?items (by rw [List.size_toArray, hps, hzs]) (by rw [List.size_toArray]; omega) ?_
    case items =>
      intro j v hv
      refine gen_P fun G9 kG9 => ?_
      obtain ⟨t, k, x, b, e1, e2, e3⟩ := hit j v (by simpa using hv)
      refine kG9 ?_
      clear kG9
      exact ⟨t, k, x, b, e1, e2, by (repeat (first | exact e3 | refine List.Mem.tail _ ?_))⟩
    intro da od h2 tk2 F2 N2 l2 lda hod
    have hRda : ∀ p ∈ R', p.1 ≠ da := fun p hp => Nat.ne_of_lt (l2 p (by (repeat (first | exact hp | refine List.Mem.tail _ ?_))))
    have da3 : da ≠ asp := (Nat.ne_of_lt (l2 (asp, _) (by k_mem))).symm
    have da4 : da ≠ dsp := (Nat.ne_of_lt (l2 (dsp, _) (by k_mem))).symm
    have da5 : da ≠ ast := (Nat.ne_of_lt (l2 (ast, _) (by k_mem))).symm
    (try k_lt l2)
    have N3 := News.sub (l' := (da, od) :: (L9z' + 1 + 1 + 1, oc) :: (L9z' + 1 + 1, oc2) :: (L9z' + 1, oc3) :: (mains w (⟨ap, asc, aw, asp, dsp, ast, act, dct, aou, aen, T, Tc, nm, ak, lt, rc, ls, lm, fu, un, wn, hn, ec, gn, c, tg⟩ : Fx) { a with dr := dr } p1 t1 t2 tN le tW tf tc th rcv ow ost oou ens ke ++ R')) N2 (by simp only [mains, List.cons_append, List.nil_append]; tb_rel)
    dsimp only [mains, List.cons_append, List.nil_append] at N3
    clear N2
    repeat (rename (_ ≠ _ ∧ _) => hzz; clear hzz)
    dsimp only
    (repeat' (first | (k_unfold; (try dsimp only)) | (k_end; wrow_close) | (with_reducible first | (k_here; (show wpAny _ _ (call (Value.ref 344) _) _ _ _); k_dflt (refine' Spec.useG (spec_draw _ _ _ _ _ _ _ _ _ _ _ _ ?dhi ?dhl ?dp0 ?dp1 ?dp2 ?dp3 ?dm0 ?dm1) ?zB ?zF ?zX ?zN ?zP ?zA ?zR ?zT ?zk ?zd ?zu ?_); top_raise; (case zP => ktr_rel); (case zR => (intro g1 st1 _; exact isList_stays st1 (by assumption))); (case dhi | dhl => assumption); (case dp0 | dp1 | dp2 | dp3 | dm0 | dm1 => omega); (case zA => ktr_unf); top_raise0; top_args; k_dflt (obtain ⟨r', tr', p0', t0', t2', e1', hr0', hr1', hp0', hp1', e2'⟩ := P'; top_argsB)) | (k_here; (show wpAny _ _ (call (Value.ref 117) _) _ _ _); k_dflt (refine' Spec.useG (spec_acked _ _ _ _ _ _ _ _ _ _ _ _ _ _ _ _ _ _ _ _ ?kth ?krc ?kne ?kW ?kW2 ?kz ?kz2 ?kc ?kc2) ?zB ?zF ?zX ?zN ?zP ?zA ?zR ?zT ?zk ?zd ?zu ?_); top_raise; (case zP => ktr_rel); (case kth | krc => assumption); (case kne => k_ne); (case kW | kW2 | kz | kz2 | kc | kc2 => omega); top_raiseB; top_args; k_dflt (obtain ⟨Wd', cr', ta', tb', tc'', e1', hW1', hW2', hc1', hc2', e2'⟩ := P'; top_argsB)) | (k_here; (show wpAny _ _ (call (Value.ref 304) _) _ _ _); k_dflt (refine' Spec.useG (spec_note_largest _ _ _ _ _ _ _ _ _ _ _ _ _ _ _ _ _ _ _ _ _ _ ?nla ?nlh) ?zB ?zF ?zX ?zN ?zP ?zA ?zR ?zT ?zk ?zd ?zu ?_); top_raise; (case zP => ktr_rel); (case nla => assumption); (case nlh => k_ne); top_raiseB; top_args; k_dflt (obtain ⟨l9, t9, e1', hl9a, hl9b, e2'⟩ := P'; top_argsB)) | (k_here; (show wpAny _ _ (call (Value.builtin "max") [Value.ref _]) _ _ _); k_dflt (refine' max_dict rfl ?mxF ?mxN ?mxd ?mxD ?mxl ?mxn ?_; (case mxF => k_asm); (case mxN => k_asm); (case mxd => k_mem); (case mxD => assumption); (case mxl => assumption); (case mxn => assumption)); intro M' tM' h' tk' F' N' hM') | (k_here; (show wpAny _ _ (call (Value.builtin "list.append") [Value.ref _, _]) _ _ _); k_dflt (refine' append_K ?k1 ?k2 ?k3 ?_ ?z; (case k1 => k_asm); (case k2 => k_asm); (case k3 => k_upd); (case z => (rw [sizeLine_eq]; omega)); k_whole); intro h' F' N') | (k_here; (show wpAny _ _ (call (Value.builtin "dict.pop") [Value.ref _, Value.int _ _]) _ _ _); k_dflt (refine' kob_pop (knd := PySem.intKind _ _) (more := []) ?F ?N ?U ?d (intKind_is _ _ _ _) (.inl rfl) (by rfl) (PySem.F.args_dict_pop_2 _ _) ?l ?z ?_; (case F => k_asm); (case N => k_asm); (case U => k_updF); (case d => assumption); (case l => assumption); (case z => (rw [sizeLine_eq]; assumption))); intro h' o' F' N' hd'; (try dsimp only at N')) | (k_here; (show wpAny _ _ (compareOp CmpOp.NotIn (Value.int _ _) (Value.ref _)) _ _ _); k_dflt (refine' kdg_notin (knd := PySem.intKind _ _) ?sN ?sp ?sd ?so (intKind_is _ _ _ _) true ?sv ?_; (case sN => k_asm); (case sp => k_mem); (case sd => assumption); (case so => assumption); (case sv => (rename valueAt _ _ = some _ => hv9; rw [hv9]; rfl)))) | (k_here; (show wpAny _ _ (eval (Expr.ListComp _ [⟨_, _, [_], _⟩] _ _) _) _ _ _); k_dflt (refine LCt.ListComp_T (F₀ := by k_asm) (by with_unfolding_all rfl) (by decide) (by rfl) (by decide) (by rfl) ?_)) | (k_here; (show wpAny _ _ (eval (Expr.ListComp _ [⟨_, _, [], _⟩] _ _) _) _ _ _); k_dflt (refine LCg.ListComp_U (F₀ := by k_asm) (by with_unfolding_all rfl) (by decide) (by rfl) (by decide) (by rfl) ?_)) | (k_here; (show wpAny _ _ (subscriptTail _ _ (Value.ref _) (Value.str _ _)) _ _ _); k_dflt (refine' kda_item (knd := PySem.strKind _ _) ?N ?p ?d (strKind_is _ _ _ _) ?l ?_; (case N => k_asm); (case p => k_mem); (case d => assumption); (case l => exact rfl)))) | walk1 | dsimp only | (leave1; try dsimp only) | fail "no step"))
    all_goals (try dsimp only)
    show wpAny _ _ (call (Value.ref 358) _) _ _ _
    refine' Spec.use (spec_law_ranges _ _ _ _ ?gD ?gl ?gs) ?zB ?zF ?zX ?zN ?zP ?zA ?zR ?zT ?zk ?zd ?zu ?_
    case zB => k_asm
    case zF => k_asm
    case zX => k_asm
    case zN => k_asm
    case zP => ktr_rel
    case gD => assumption
    case gl => assumption
    case gs => omega
    case zA => ktr_unf
    case zR => exact fun _ _ _ => trivial
    case zT => k_asm
    case zk => first | exact rfl | assumption
    case zd => ktr_room
    case zu => ktr_units
    intro v' p' h' tk' F' N' A' P'
    refine gen_P fun G9 kG9 => ?_
    obtain ⟨rl, itr, kr, Rr, e1', hpr, hits4, hRrl, hRrd, hrd, e2'⟩ := P'
    subst e1'
    subst e2'
    have q1 : ap ≠ rl ∧ aw ≠ rl ∧ asp ≠ rl ∧ dsp ≠ rl ∧ ast ≠ rl ∧ act ≠ rl ∧ dct ≠ rl ∧ aou ≠ rl ∧ aen ≠ rl := ⟨A' _ (.tail _ (.head _)) (ap, _) (by k_mem), A' _ (.tail _ (.head _)) (aw, _) (by k_mem), A' _ (.tail _ (.head _)) (asp, _) (by k_mem), A' _ (.tail _ (.head _)) (dsp, _) (by k_mem), A' _ (.tail _ (.head _)) (ast, _) (by k_mem), A' _ (.tail _ (.head _)) (act, _) (by k_mem), A' _ (.tail _ (.head _)) (dct, _) (by k_mem), A' _ (.tail _ (.head _)) (aou, _) (by k_mem), A' _ (.tail _ (.head _)) (aen, _) (by k_mem)⟩
    obtain ⟨u1, u2, u3, u4, u5, u6, u7, u8, u9⟩ := q1
    refine kG9 ?_
    clear kG9
    have hRrl2 : ∀ p ∈ R', p.1 ≠ rl := fun p hp => A' _ (.tail _ (.head _)) p (by (repeat (first | exact hp | exact List.Mem.head _ | refine List.Mem.tail _ ?_ | refine List.mem_append_right _ ?_)))
    dsimp only
    (repeat' (first | (k_unfold; (try dsimp only)) | (k_end; wrow_close) | (with_reducible first | (k_here; (show wpAny _ _ (call (Value.ref 344) _) _ _ _); k_dflt (refine' Spec.useG (spec_draw _ _ _ _ _ _ _ _ _ _ _ _ ?dhi ?dhl ?dp0 ?dp1 ?dp2 ?dp3 ?dm0 ?dm1) ?zB ?zF ?zX ?zN ?zP ?zA ?zR ?zT ?zk ?zd ?zu ?_); top_raise; (case zP => ktr_rel); (case zR => (intro g1 st1 _; exact isList_stays st1 (by assumption))); (case dhi | dhl => assumption); (case dp0 | dp1 | dp2 | dp3 | dm0 | dm1 => omega); (case zA => ktr_unf); top_raise0; top_args; k_dflt (obtain ⟨r', tr', p0', t0', t2', e1', hr0', hr1', hp0', hp1', e2'⟩ := P'; top_argsB)) | (k_here; (show wpAny _ _ (call (Value.ref 117) _) _ _ _); k_dflt (refine' Spec.useG (spec_acked _ _ _ _ _ _ _ _ _ _ _ _ _ _ _ _ _ _ _ _ ?kth ?krc ?kne ?kW ?kW2 ?kz ?kz2 ?kc ?kc2) ?zB ?zF ?zX ?zN ?zP ?zA ?zR ?zT ?zk ?zd ?zu ?_); top_raise; (case zP => ktr_rel); (case kth | krc => assumption); (case kne => k_ne); (case kW | kW2 | kz | kz2 | kc | kc2 => omega); top_raiseB; top_args; k_dflt (obtain ⟨Wd', cr', ta', tb', tc'', e1', hW1', hW2', hc1', hc2', e2'⟩ := P'; top_argsB)) | (k_here; (show wpAny _ _ (call (Value.ref 304) _) _ _ _); k_dflt (refine' Spec.useG (spec_note_largest _ _ _ _ _ _ _ _ _ _ _ _ _ _ _ _ _ _ _ _ _ _ ?nla ?nlh) ?zB ?zF ?zX ?zN ?zP ?zA ?zR ?zT ?zk ?zd ?zu ?_); top_raise; (case zP => ktr_rel); (case nla => assumption); (case nlh => k_ne); top_raiseB; top_args; k_dflt (obtain ⟨l9, t9, e1', hl9a, hl9b, e2'⟩ := P'; top_argsB)) | (k_here; (show wpAny _ _ (call (Value.builtin "max") [Value.ref _]) _ _ _); k_dflt (refine' max_dict rfl ?mxF ?mxN ?mxd ?mxD ?mxl ?mxn ?_; (case mxF => k_asm); (case mxN => k_asm); (case mxd => k_mem); (case mxD => assumption); (case mxl => assumption); (case mxn => assumption)); intro M' tM' h' tk' F' N' hM') | (k_here; (show wpAny _ _ (call (Value.builtin "list.append") [Value.ref _, _]) _ _ _); k_dflt (refine' append_K ?k1 ?k2 ?k3 ?_ ?z; (case k1 => k_asm); (case k2 => k_asm); (case k3 => k_upd); (case z => (rw [sizeLine_eq]; omega)); k_whole); intro h' F' N') | (k_here; (show wpAny _ _ (call (Value.builtin "dict.pop") [Value.ref _, Value.int _ _]) _ _ _); k_dflt (refine' kob_pop (knd := PySem.intKind _ _) (more := []) ?F ?N ?U ?d (intKind_is _ _ _ _) (.inl rfl) (by rfl) (PySem.F.args_dict_pop_2 _ _) ?l ?z ?_; (case F => k_asm); (case N => k_asm); (case U => k_updF); (case d => assumption); (case l => assumption); (case z => (rw [sizeLine_eq]; assumption))); intro h' o' F' N' hd'; (try dsimp only at N')) | (k_here; (show wpAny _ _ (compareOp CmpOp.NotIn (Value.int _ _) (Value.ref _)) _ _ _); k_dflt (refine' kdg_notin (knd := PySem.intKind _ _) ?sN ?sp ?sd ?so (intKind_is _ _ _ _) true ?sv ?_; (case sN => k_asm); (case sp => k_mem); (case sd => assumption); (case so => assumption); (case sv => (rename valueAt _ _ = some _ => hv9; rw [hv9]; rfl)))) | (k_here; (show wpAny _ _ (eval (Expr.ListComp _ [⟨_, _, [_], _⟩] _ _) _) _ _ _); k_dflt (refine LCt.ListComp_T (F₀ := by k_asm) (by with_unfolding_all rfl) (by decide) (by rfl) (by decide) (by rfl) ?_)) | (k_here; (show wpAny _ _ (eval (Expr.ListComp _ [⟨_, _, [], _⟩] _ _) _) _ _ _); k_dflt (refine LCg.ListComp_U (F₀ := by k_asm) (by with_unfolding_all rfl) (by decide) (by rfl) (by decide) (by rfl) ?_)) | (k_here; (show wpAny _ _ (subscriptTail _ _ (Value.ref _) (Value.str _ _)) _ _ _); k_dflt (refine' kda_item (knd := PySem.strKind _ _) ?N ?p ?d (strKind_is _ _ _ _) ?l ?_; (case N => k_asm); (case p => k_mem); (case d => assumption); (case l => exact rfl)))) | walk1 | dsimp only | (leave1; try dsimp only) | fail "no step"))
    all_goals (try dsimp only)
    show wpAny _ _ (call (Value.ref 283) _) _ _ _
    refine' Spec.use2 (spec_acked_by w asp dsp ast rl T nm (.int (a.N : Int) tN) a.la ak le lt rc ls lm fu un wn hn ec gn ost a.ps itr kr Rr hS ls' (by omega) hpr (by omega) hRrl (fun q hq => (A' q (.tail _ (.tail _ hq)) (asp, _) (by k_mem)).symm) (fun q hq => (A' q (.tail _ (.tail _ hq)) (dsp, _) (by k_mem)).symm) (fun q hq => (A' q (.tail _ (.tail _ hq)) (ast, _) (by k_mem)).symm) h23 h24 u3 h34 u4 u5) ((da, od) :: (L9z' + 1 + 1 + 1, oc) :: (L9z' + 1 + 1, oc2) :: (L9z' + 1, oc3) :: (ap, PySem.W.listOf #[.int p1 t1, .ref asc, .int dr t2] c) :: (aw, ow) :: (act, instObj 148 dct) :: (dct, ctD w Tc (.int 100 tg) (.int a.W tW) th rcv (.int a.f tf) (.int a.cr tc)) :: (aou, oou) :: (aen, PySem.W.listOf ens ke) :: R') ?zB ?zF ?zX ?zN ?zs ?zr ?zA ?zR ?zT ?zk ?zd ?zu ?_
    case zB => k_asm
    case zF => k_asm
    case zX => k_asm
    case zN => exact N'
    case zs =>
      intro p hp
      simp only [List.mem_cons] at hp
      rcases hp with rfl | rfl | rfl | rfl | hp
      · exact List.mem_append_right _ (by k_mem)
      · exact List.mem_append_right _ (by k_mem)
      · exact List.mem_append_right _ (by k_mem)
      · exact List.mem_append_left _ (.tail _ (.head _))
      · exact List.mem_append_left _ (.tail _ (.tail _ hp))
    case zr => exact sub_cons (List.mem_append_left _ (.head _)) (fun p hp => List.mem_append_right _ ((by tb_rel : ∀ p ∈ _, p ∈ _) p hp))
    case zA =>
      refine Apart.cons ?_ (Apart.cons ?_ (Apart.cons ?_ ?_))
      · simp only [all_cons]; exact ⟨da3, (ne3 hl1.2.2.1).1, (ne3 hl1.2.2.1).2.1, (ne3 hl1.2.2.1).2.2, h02, h12, h25.symm, h26.symm, h27.symm, h28.symm, r3⟩
      · simp only [all_cons]; exact ⟨da4, (ne3 hl1.2.2.2.1).1, (ne3 hl1.2.2.2.1).2.1, (ne3 hl1.2.2.2.1).2.2, h03, h13, h35.symm, h36.symm, h37.symm, h38.symm, r4⟩
      · simp only [all_cons]; exact ⟨da5, (ne3 hl1.2.2.2.2.1).1, (ne3 hl1.2.2.2.2.1).2.1, (ne3 hl1.2.2.2.2.1).2.2, h04, h14, h45.symm, h46.symm, h47.symm, h48.symm, r5⟩
      · intro q hq p hp
        rcases List.mem_cons.mp hp with rfl | hp
        · rcases List.mem_cons.mp hq with rfl | hq
          · exact hrd.symm
          · exact (hRrd q hq).symm
        · exact A' q (.tail _ hq) p ((by tb_rel : ∀ p ∈ _, p ∈ _) p hp)
    case zR => exact fun _ _ _ => trivial
    case zT => k_asm
    case zk => first | exact rfl | assumption
    case zd => ktr_room
    case zu => ktr_units
    intro v3 p3 h3 tk3 F3 N4 A3 P3
    refine gen_P fun G9 kG9 => ?_
    obtain ⟨D3, its3, k3, li, e1', hli, hlin, hlis, hlim, hll, e2'⟩ := P3
    subst e1'
    subst e2'
    simp only [List.cons_append, List.nil_append] at N4
    have w3 : asp ≠ D3 := cls_ne N4 (by (repeat (first | exact List.Mem.head _ | refine List.Mem.tail _ ?_ | refine List.mem_append_right _ ?_))) (.head _) (by intro h; cases h)
    have w4 : dsp ≠ D3 := cls_ne N4 (by (repeat (first | exact List.Mem.head _ | refine List.Mem.tail _ ?_ | refine List.mem_append_right _ ?_))) (.head _) (by show Value.type "dict" ≠ Value.type "list"; decide)
    have w5 : ast ≠ D3 := cls_ne N4 (by (repeat (first | exact List.Mem.head _ | refine List.Mem.tail _ ?_ | refine List.mem_append_right _ ?_))) (.head _) (by rw [dict_is hS]; show Value.type "dict" ≠ Value.type "list"; decide)
    have q2 : ap ≠ D3 ∧ aw ≠ D3 ∧ act ≠ D3 ∧ dct ≠ D3 ∧ aou ≠ D3 ∧ aen ≠ D3 ∧ da ≠ D3 := ⟨A3 _ (.head _) (ap, _) (by k_mem), A3 _ (.head _) (aw, _) (by k_mem), A3 _ (.head _) (act, _) (by k_mem), A3 _ (.head _) (dct, _) (by k_mem), A3 _ (.head _) (aou, _) (by k_mem), A3 _ (.head _) (aen, _) (by k_mem), A3 _ (.head _) (da, _) (by k_mem)⟩
    obtain ⟨w1, w2, w6, w7, w8, w9, w10⟩ := q2
    have hRD3 : ∀ p ∈ R', p.1 ≠ D3 := fun p hp => A3 _ (.head _) p (by (repeat (first | exact hp | exact List.Mem.head _ | refine List.Mem.tail _ ?_ | refine List.mem_append_right _ ?_)))
    have q3 : (L9z' + 1 + 1 + 1) ≠ D3 ∧ (L9z' + 1 + 1) ≠ D3 ∧ (L9z' + 1) ≠ D3 := ⟨A3 _ (.head _) (L9z' + 1 + 1 + 1, oc) (by k_mem), A3 _ (.head _) (L9z' + 1 + 1, oc2) (by k_mem), A3 _ (.head _) (L9z' + 1, oc3) (by k_mem)⟩
    obtain ⟨v1, v2, v3⟩ := q3
    refine kG9 ?_
    clear kG9
    have N6 := News.sub (l' := (D3, PySem.W.listOf its3 k3) :: (da, od) :: (L9z' + 1 + 1 + 1, oc) :: (L9z' + 1 + 1, oc2) :: (L9z' + 1, oc3) :: (mains w (⟨ap, asc, aw, asp, dsp, ast, act, dct, aou, aen, T, Tc, nm, ak, lt, rc, ls, lm, fu, un, wn, hn, ec, gn, c, tg⟩ : Fx) { a with dr := dr } p1 t1 t2 tN le tW tf tc th rcv ow ost oou ens ke ++ R')) N4 (by simp only [mains, List.cons_append, List.nil_append]; tb_rel)
    dsimp only [mains, List.cons_append, List.nil_append] at N6
    clear N' A' A3 N4
    have hsz3 : its3.size = li.length := by rw [← Array.length_toList]; exact hli.length
    have hll2 : li.length ≤ 61 := by rw [List.length_map] at hll; omega
    dsimp only
    (repeat' (first | (k_unfold; (try dsimp only)) | (k_end; wrow_close) | (with_reducible first | (k_here; (show wpAny _ _ (call (Value.ref 344) _) _ _ _); k_dflt (refine' Spec.useG (spec_draw _ _ _ _ _ _ _ _ _ _ _ _ ?dhi ?dhl ?dp0 ?dp1 ?dp2 ?dp3 ?dm0 ?dm1) ?zB ?zF ?zX ?zN ?zP ?zA ?zR ?zT ?zk ?zd ?zu ?_); top_raise; (case zP => ktr_rel); (case zR => (intro g1 st1 _; exact isList_stays st1 (by assumption))); (case dhi | dhl => assumption); (case dp0 | dp1 | dp2 | dp3 | dm0 | dm1 => omega); (case zA => ktr_unf); top_raise0; top_args; k_dflt (obtain ⟨r', tr', p0', t0', t2', e1', hr0', hr1', hp0', hp1', e2'⟩ := P'; top_argsB)) | (k_here; (show wpAny _ _ (call (Value.ref 117) _) _ _ _); k_dflt (refine' Spec.useG (spec_acked _ _ _ _ _ _ _ _ _ _ _ _ _ _ _ _ _ _ _ _ ?kth ?krc ?kne ?kW ?kW2 ?kz ?kz2 ?kc ?kc2) ?zB ?zF ?zX ?zN ?zP ?zA ?zR ?zT ?zk ?zd ?zu ?_); top_raise; (case zP => ktr_rel); (case kth | krc => assumption); (case kne => k_ne); (case kW | kW2 | kz | kz2 | kc | kc2 => omega); top_raiseB; top_args; k_dflt (obtain ⟨Wd', cr', ta', tb', tc'', e1', hW1', hW2', hc1', hc2', e2'⟩ := P'; top_argsB)) | (k_here; (show wpAny _ _ (call (Value.ref 304) _) _ _ _); k_dflt (refine' Spec.useG (spec_note_largest _ _ _ _ _ _ _ _ _ _ _ _ _ _ _ _ _ _ _ _ _ _ ?nla ?nlh) ?zB ?zF ?zX ?zN ?zP ?zA ?zR ?zT ?zk ?zd ?zu ?_); top_raise; (case zP => ktr_rel); (case nla => assumption); (case nlh => k_ne); top_raiseB; top_args; k_dflt (obtain ⟨l9, t9, e1', hl9a, hl9b, e2'⟩ := P'; top_argsB)) | (k_here; (show wpAny _ _ (call (Value.builtin "max") [Value.ref _]) _ _ _); k_dflt (refine' max_dict rfl ?mxF ?mxN ?mxd ?mxD ?mxl ?mxn ?_; (case mxF => k_asm); (case mxN => k_asm); (case mxd => k_mem); (case mxD => assumption); (case mxl => assumption); (case mxn => assumption)); intro M' tM' h' tk' F' N' hM') | (k_here; (show wpAny _ _ (call (Value.builtin "list.append") [Value.ref _, _]) _ _ _); k_dflt (refine' append_K ?k1 ?k2 ?k3 ?_ ?z; (case k1 => k_asm); (case k2 => k_asm); (case k3 => k_upd); (case z => (rw [sizeLine_eq]; omega)); k_whole); intro h' F' N') | (k_here; (show wpAny _ _ (call (Value.builtin "dict.pop") [Value.ref _, Value.int _ _]) _ _ _); k_dflt (refine' kob_pop (knd := PySem.intKind _ _) (more := []) ?F ?N ?U ?d (intKind_is _ _ _ _) (.inl rfl) (by rfl) (PySem.F.args_dict_pop_2 _ _) ?l ?z ?_; (case F => k_asm); (case N => k_asm); (case U => k_updF); (case d => assumption); (case l => assumption); (case z => (rw [sizeLine_eq]; assumption))); intro h' o' F' N' hd'; (try dsimp only at N')) | (k_here; (show wpAny _ _ (compareOp CmpOp.NotIn (Value.int _ _) (Value.ref _)) _ _ _); k_dflt (refine' kdg_notin (knd := PySem.intKind _ _) ?sN ?sp ?sd ?so (intKind_is _ _ _ _) true ?sv ?_; (case sN => k_asm); (case sp => k_mem); (case sd => assumption); (case so => assumption); (case sv => (rename valueAt _ _ = some _ => hv9; rw [hv9]; rfl)))) | (k_here; (show wpAny _ _ (eval (Expr.ListComp _ [⟨_, _, [_], _⟩] _ _) _) _ _ _); k_dflt (refine LCt.ListComp_T (F₀ := by k_asm) (by with_unfolding_all rfl) (by decide) (by rfl) (by decide) (by rfl) ?_)) | (k_here; (show wpAny _ _ (eval (Expr.ListComp _ [⟨_, _, [], _⟩] _ _) _) _ _ _); k_dflt (refine LCg.ListComp_U (F₀ := by k_asm) (by with_unfolding_all rfl) (by decide) (by rfl) (by decide) (by rfl) ?_)) | (k_here; (show wpAny _ _ (subscriptTail _ _ (Value.ref _) (Value.str _ _)) _ _ _); k_dflt (refine' kda_item (knd := PySem.strKind _ _) ?N ?p ?d (strKind_is _ _ _ _) ?l ?_; (case N => k_asm); (case p => k_mem); (case d => assumption); (case l => exact rfl)))) | walk1 | dsimp only | (leave1; try dsimp only) | fail "no step"))
    all_goals (try dsimp only)
    have hl9 := And.intro True.intro hl1
    repeat (rename (_ < _ ∧ _) => hzz; clear hzz)
    have hl1 := hl9.2
    clear hl9
    have N6b := News.sub (l' := (D3, PySem.W.listOf its3 k3) :: (da, od) :: (L9z' + 1 + 1 + 1, oc) :: (L9z' + 1 + 1, oc2) :: (L9z' + 1, oc3) :: (mains w (⟨ap, asc, aw, asp, dsp, ast, act, dct, aou, aen, T, Tc, nm, ak, lt, rc, ls, lm, fu, un, wn, hn, ec, gn, c, tg⟩ : Fx) { a with dr := dr } p1 t1 t2 tN le tW tf tc th rcv ow ost oou ens ke ++ R')) (by k_asm) (by simp only [mains, List.cons_append, List.nil_append]; tb_rel)
    simp only [mains, List.cons_append, List.nil_append] at N6b
    unfold Stop
    refine LCt.CompSrcT.ledger rfl (by k_asm) N6b (k := k3) (by k_mem) (by rw [sizeLine_eq]; omega) fun g₃ => ?_
    refine compT_keep (fun i ys => ys = []) rfl ?step2 ?done2
    case step2 =>
      intro i zs2 v I oI C oC D m₂ h tk E' hi2 hzs2 hPi hC hx F N off hne'
      refine gen_P fun G9 kG9 => ?_
      obtain ⟨n, t, rfl, hn⟩ := hli.at i v (by simpa using hPi)
      obtain ⟨p, hof, hp, rfl⟩ := ofNum_some (hlim n (List.mem_of_getElem? hn))
      refine kG9 ?_
      clear kG9
      have hval := value_out hO.nd2 hp
      (repeat' (first | (k_unfold; (try dsimp only)) | (k_end; wrow_close) | (with_reducible first | (k_here; (show wpAny _ _ (call (Value.ref 344) _) _ _ _); k_dflt (refine' Spec.useG (spec_draw _ _ _ _ _ _ _ _ _ _ _ _ ?dhi ?dhl ?dp0 ?dp1 ?dp2 ?dp3 ?dm0 ?dm1) ?zB ?zF ?zX ?zN ?zP ?zA ?zR ?zT ?zk ?zd ?zu ?_); top_raise; (case zP => ktr_rel); (case zR => (intro g1 st1 _; exact isList_stays st1 (by assumption))); (case dhi | dhl => assumption); (case dp0 | dp1 | dp2 | dp3 | dm0 | dm1 => omega); (case zA => ktr_unf); top_raise0; top_args; k_dflt (obtain ⟨r', tr', p0', t0', t2', e1', hr0', hr1', hp0', hp1', e2'⟩ := P'; top_argsB)) | (k_here; (show wpAny _ _ (call (Value.ref 117) _) _ _ _); k_dflt (refine' Spec.useG (spec_acked _ _ _ _ _ _ _ _ _ _ _ _ _ _ _ _ _ _ _ _ ?kth ?krc ?kne ?kW ?kW2 ?kz ?kz2 ?kc ?kc2) ?zB ?zF ?zX ?zN ?zP ?zA ?zR ?zT ?zk ?zd ?zu ?_); top_raise; (case zP => ktr_rel); (case kth | krc => assumption); (case kne => k_ne); (case kW | kW2 | kz | kz2 | kc | kc2 => omega); top_raiseB; top_args; k_dflt (obtain ⟨Wd', cr', ta', tb', tc'', e1', hW1', hW2', hc1', hc2', e2'⟩ := P'; top_argsB)) | (k_here; (show wpAny _ _ (call (Value.ref 304) _) _ _ _); k_dflt (refine' Spec.useG (spec_note_largest _ _ _ _ _ _ _ _ _ _ _ _ _ _ _ _ _ _ _ _ _ _ ?nla ?nlh) ?zB ?zF ?zX ?zN ?zP ?zA ?zR ?zT ?zk ?zd ?zu ?_); top_raise; (case zP => ktr_rel); (case nla => assumption); (case nlh => k_ne); top_raiseB; top_args; k_dflt (obtain ⟨l9, t9, e1', hl9a, hl9b, e2'⟩ := P'; top_argsB)) | (k_here; (show wpAny _ _ (call (Value.builtin "max") [Value.ref _]) _ _ _); k_dflt (refine' max_dict rfl ?mxF ?mxN ?mxd ?mxD ?mxl ?mxn ?_; (case mxF => k_asm); (case mxN => k_asm); (case mxd => k_mem); (case mxD => assumption); (case mxl => assumption); (case mxn => assumption)); intro M' tM' h' tk' F' N' hM') | (k_here; (show wpAny _ _ (call (Value.builtin "list.append") [Value.ref _, _]) _ _ _); k_dflt (refine' append_K ?k1 ?k2 ?k3 ?_ ?z; (case k1 => k_asm); (case k2 => k_asm); (case k3 => k_upd); (case z => (rw [sizeLine_eq]; omega)); k_whole); intro h' F' N') | (k_here; (show wpAny _ _ (call (Value.builtin "dict.pop") [Value.ref _, Value.int _ _]) _ _ _); k_dflt (refine' kob_pop (knd := PySem.intKind _ _) (more := []) ?F ?N ?U ?d (intKind_is _ _ _ _) (.inl rfl) (by rfl) (PySem.F.args_dict_pop_2 _ _) ?l ?z ?_; (case F => k_asm); (case N => k_asm); (case U => k_updF); (case d => assumption); (case l => assumption); (case z => (rw [sizeLine_eq]; assumption))); intro h' o' F' N' hd'; (try dsimp only at N')) | (k_here; (show wpAny _ _ (compareOp CmpOp.NotIn (Value.int _ _) (Value.ref _)) _ _ _); k_dflt (refine' kdg_notin (knd := PySem.intKind _ _) ?sN ?sp ?sd ?so (intKind_is _ _ _ _) true ?sv ?_; (case sN => k_asm); (case sp => k_mem); (case sd => assumption); (case so => assumption); (case sv => (rename valueAt _ _ = some _ => hv9; rw [hv9]; rfl)))) | (k_here; (show wpAny _ _ (eval (Expr.ListComp _ [⟨_, _, [_], _⟩] _ _) _) _ _ _); k_dflt (refine LCt.ListComp_T (F₀ := by k_asm) (by with_unfolding_all rfl) (by decide) (by rfl) (by decide) (by rfl) ?_)) | (k_here; (show wpAny _ _ (eval (Expr.ListComp _ [⟨_, _, [], _⟩] _ _) _) _ _ _); k_dflt (refine LCg.ListComp_U (F₀ := by k_asm) (by with_unfolding_all rfl) (by decide) (by rfl) (by decide) (by rfl) ?_)) | (k_here; (show wpAny _ _ (subscriptTail _ _ (Value.ref _) (Value.str _ _)) _ _ _); k_dflt (refine' kda_item (knd := PySem.strKind _ _) ?N ?p ?d (strKind_is _ _ _ _) ?l ?_; (case N => k_asm); (case p => k_mem); (case d => assumption); (case l => exact rfl)))) | walk1 | dsimp only | (leave1; try dsimp only) | fail "no step"))
      all_goals (try dsimp only)
      refine gen_P fun G9 kG9 => ?_
      subst hzs2
      refine kG9 ?_
      clear kG9
      refine' compEnd_keep ?qF ?qN ?qs off ?qS rfl
      case qF => k_asm
      case qN => k_asm
      case qs => tb_rel
      case qS => exact .inr ⟨_, by k_mem, rfl, _, rfl⟩
    case done2 =>
      intro zs2 hzs2
      refine gen_P fun G9 kG9 => ?_
      subst hzs2
      refine kG9 ?_
      clear kG9
      (repeat' (first | (k_unfold; (try dsimp only)) | (k_end; wrow_close) | (with_reducible first | (k_here; (show wpAny _ _ (call (Value.ref 344) _) _ _ _); k_dflt (refine' Spec.useG (spec_draw _ _ _ _ _ _ _ _ _ _ _ _ ?dhi ?dhl ?dp0 ?dp1 ?dp2 ?dp3 ?dm0 ?dm1) ?zB ?zF ?zX ?zN ?zP ?zA ?zR ?zT ?zk ?zd ?zu ?_); top_raise; (case zP => ktr_rel); (case zR => (intro g1 st1 _; exact isList_stays st1 (by assumption))); (case dhi | dhl => assumption); (case dp0 | dp1 | dp2 | dp3 | dm0 | dm1 => omega); (case zA => ktr_unf); top_raise0; top_args; k_dflt (obtain ⟨r', tr', p0', t0', t2', e1', hr0', hr1', hp0', hp1', e2'⟩ := P'; top_argsB)) | (k_here; (show wpAny _ _ (call (Value.ref 117) _) _ _ _); k_dflt (refine' Spec.useG (spec_acked _ _ _ _ _ _ _ _ _ _ _ _ _ _ _ _ _ _ _ _ ?kth ?krc ?kne ?kW ?kW2 ?kz ?kz2 ?kc ?kc2) ?zB ?zF ?zX ?zN ?zP ?zA ?zR ?zT ?zk ?zd ?zu ?_); top_raise; (case zP => ktr_rel); (case kth | krc => assumption); (case kne => k_ne); (case kW | kW2 | kz | kz2 | kc | kc2 => omega); top_raiseB; top_args; k_dflt (obtain ⟨Wd', cr', ta', tb', tc'', e1', hW1', hW2', hc1', hc2', e2'⟩ := P'; top_argsB)) | (k_here; (show wpAny _ _ (call (Value.ref 304) _) _ _ _); k_dflt (refine' Spec.useG (spec_note_largest _ _ _ _ _ _ _ _ _ _ _ _ _ _ _ _ _ _ _ _ _ _ ?nla ?nlh) ?zB ?zF ?zX ?zN ?zP ?zA ?zR ?zT ?zk ?zd ?zu ?_); top_raise; (case zP => ktr_rel); (case nla => assumption); (case nlh => k_ne); top_raiseB; top_args; k_dflt (obtain ⟨l9, t9, e1', hl9a, hl9b, e2'⟩ := P'; top_argsB)) | (k_here; (show wpAny _ _ (call (Value.builtin "max") [Value.ref _]) _ _ _); k_dflt (refine' max_dict rfl ?mxF ?mxN ?mxd ?mxD ?mxl ?mxn ?_; (case mxF => k_asm); (case mxN => k_asm); (case mxd => k_mem); (case mxD => assumption); (case mxl => assumption); (case mxn => assumption)); intro M' tM' h' tk' F' N' hM') | (k_here; (show wpAny _ _ (call (Value.builtin "list.append") [Value.ref _, _]) _ _ _); k_dflt (refine' append_K ?k1 ?k2 ?k3 ?_ ?z; (case k1 => k_asm); (case k2 => k_asm); (case k3 => k_upd); (case z => (rw [sizeLine_eq]; omega)); k_whole); intro h' F' N') | (k_here; (show wpAny _ _ (call (Value.builtin "dict.pop") [Value.ref _, Value.int _ _]) _ _ _); k_dflt (refine' kob_pop (knd := PySem.intKind _ _) (more := []) ?F ?N ?U ?d (intKind_is _ _ _ _) (.inl rfl) (by rfl) (PySem.F.args_dict_pop_2 _ _) ?l ?z ?_; (case F => k_asm); (case N => k_asm); (case U => k_updF); (case d => assumption); (case l => assumption); (case z => (rw [sizeLine_eq]; assumption))); intro h' o' F' N' hd'; (try dsimp only at N')) | (k_here; (show wpAny _ _ (compareOp CmpOp.NotIn (Value.int _ _) (Value.ref _)) _ _ _); k_dflt (refine' kdg_notin (knd := PySem.intKind _ _) ?sN ?sp ?sd ?so (intKind_is _ _ _ _) true ?sv ?_; (case sN => k_asm); (case sp => k_mem); (case sd => assumption); (case so => assumption); (case sv => (rename valueAt _ _ = some _ => hv9; rw [hv9]; rfl)))) | (k_here; (show wpAny _ _ (eval (Expr.ListComp _ [⟨_, _, [_], _⟩] _ _) _) _ _ _); k_dflt (refine LCt.ListComp_T (F₀ := by k_asm) (by with_unfolding_all rfl) (by decide) (by rfl) (by decide) (by rfl) ?_)) | (k_here; (show wpAny _ _ (eval (Expr.ListComp _ [⟨_, _, [], _⟩] _ _) _) _ _ _); k_dflt (refine LCg.ListComp_U (F₀ := by k_asm) (by with_unfolding_all rfl) (by decide) (by rfl) (by decide) (by rfl) ?_)) | (k_here; (show wpAny _ _ (subscriptTail _ _ (Value.ref _) (Value.str _ _)) _ _ _); k_dflt (refine' kda_item (knd := PySem.strKind _ _) ?N ?p ?d (strKind_is _ _ _ _) ?l ?_; (case N => k_asm); (case p => k_mem); (case d => assumption); (case l => exact rfl)))) | walk1 | dsimp only | (leave1; try dsimp only) | fail "no step"))
      all_goals (try dsimp only)
      have hP2 : ∀ p ∈ a.ps, PkIn w R' p := fun p hp => (hP p (by rw [hO.al]; exact hp)).mono hsub
      have N7 := News.sub (l' := (D3, PySem.W.listOf its3 k3) :: (L9z' + 1 + 1 + 1, oc) :: (L9z' + 1 + 1, oc2) :: (L9z' + 1, oc3) :: (mains w (⟨ap, asc, aw, asp, dsp, ast, act, dct, aou, aen, T, Tc, nm, ak, lt, rc, ls, lm, fu, un, wn, hn, ec, gn, c, tg⟩ : Fx) { a with dr := dr, la := .int l9 t9 } p1 t1 t2 tN le tW tf tc th rcv ow ost oou ens ke ++ R')) (by k_asm) (by simp only [mains, List.cons_append, List.nil_append]; tb_rel)
      dsimp only [mains, List.cons_append, List.nil_append] at N7
      repeat (rename (_ ≠ _ ∧ _) => hzz; clear hzz)
      have hl9 := And.intro True.intro hl1
      repeat (rename (_ < _ ∧ _) => hzz; clear hzz)
      have hl1 := hl9.2
      clear hl9
      show wpAny _ _ (call (Value.ref 276) _) _ _ _
      refine' Spec.use (spec_take _ _ _ _ _ _ _ _ _ _ _ _ _ _ _ _ _ _ _ _ _ _ _ _ _ _ ?tD ?tl ?ts ?tnd ?ti ?tm ?t6 ?t1 ?t2 ?t3 ?t4 ?t5 ?t7) ?zB ?zF ?zX ?zN ?zP ?zA ?zR ?zT ?zk ?zd ?zu ?_
      case zB => k_asm
      case zF => k_asm
      case zX => k_asm
      case zN => k_asm
      case zP => ktr_rel
      case tD => assumption
      case tl => assumption
      case ts => omega
      case ti => exact hli
      case tnd => exact hlin
      case tm => exact hlim
      case t6 => omega
      case t1 => assumption
      case t2 => assumption
      case t3 => assumption
      case t4 => assumption
      case t5 => assumption
      case t7 => assumption
      case zA => ktr_unf
      case zR => (intro g1 _ hr9; exact fun p hp => PkIn.at (hP2 p hp) fun x hx => hr9 x (by (repeat (first | exact hx | refine List.Mem.tail _ ?_))))
      case zT => k_asm
      case zk => first | exact rfl | assumption
      case zd => ktr_room
      case zu => ktr_units
      intro v' p' h' tk' F' N' A' P'
      refine gen_P fun G9 kG9 => ?_
      obtain ⟨lf, itf, kf, os, ns', e1', hitf, hperm, hSo, e2'⟩ := P'
      subst e1'
      subst e2'
      have q4 : ap ≠ lf ∧ aw ≠ lf ∧ act ≠ lf ∧ dct ≠ lf ∧ aou ≠ lf ∧ aen ≠ lf := ⟨A' _ (.head _) (ap, _) (by k_mem), A' _ (.head _) (aw, _) (by k_mem), A' _ (.head _) (act, _) (by k_mem), A' _ (.head _) (dct, _) (by k_mem), A' _ (.head _) (aou, _) (by k_mem), A' _ (.head _) (aen, _) (by k_mem)⟩
      obtain ⟨y1, y2, y3, y4, y5, y6⟩ := q4
      have yc : (L9z' + 1 + 1 + 1) ≠ lf ∧ (L9z' + 1 + 1) ≠ lf ∧ (L9z' + 1) ≠ lf := ⟨A' _ (.head _) (L9z' + 1 + 1 + 1, oc) (by k_mem), A' _ (.head _) (L9z' + 1 + 1, oc2) (by k_mem), A' _ (.head _) (L9z' + 1, oc3) (by k_mem)⟩
      obtain ⟨yc1, yc2, yc3⟩ := yc
      refine kG9 ?_
      clear kG9
      have hRlf : ∀ p ∈ R', p.1 ≠ lf := fun p hp => A' _ (.head _) p (by (repeat (first | exact hp | refine List.Mem.tail _ ?_)))
      simp only [List.cons_append, List.nil_append] at N'
      have N8 := News.sub (l' := (lf, PySem.W.listOf itf kf) :: (L9z' + 1 + 1 + 1, oc) :: (L9z' + 1 + 1, oc2) :: (L9z' + 1, oc3) :: (mains w (⟨ap, asc, aw, asp, dsp, ast, act, dct, aou, aen, T, Tc, nm, ak, lt, rc, ls, lm, fu, un, wn, hn, ec, gn, c, tg⟩ : Fx) { a with dr := dr, la := .int l9 t9, W := a.W, f := a.f, cr := a.cr } p1 t1 t2 tN le tW tf tc th rcv ow os oou ens ke ++ R')) N' (by simp only [mains, List.cons_append, List.nil_append]; tb_rel)
      clear A' N'
      have hns : ns'.Nodup := hperm.nodup_iff.mpr hlin
      have hns3 : ∀ x ∈ ns', x ∈ a.ps.map (·.n) := fun x hx => hlim x (hperm.mem_iff.mp hx)
      have hpm := pks_map (ps := a.ps) hns3
      have hkl' := pks_len hO.nd2 hns hns3
      have hitsz : itf.size = ns'.length := by
        have h1 := congrArg List.length hitf
        have h2 := congrArg List.length hpm
        rw [List.length_map] at h1 h2
        rw [← Array.length_toList]
        omega
      have hWu : a.W ≤ 7100 := by have := hO.Wu; have := sum_nonneg hO.z; omega
      dsimp only
      refine for_list' (l := lf) (o := PySem.W.listOf itf kf) rfl (by k_asm) N8 (.head _) rfl rfl [Str.ofString "packet", Str.ofString "octets"] (by decide)
        (fun i m₁ nw => AkL w (⟨ap, asc, aw, asp, dsp, ast, act, dct, aou, aen, T, Tc, nm, ak, lt, rc, ls, lm, fu, un, wn, hn, ec, gn, c, tg⟩ : Fx) a dr (.int l9 t9) p1 t1 t2 tN le th rcv ow os R' (L9z' + 1 + 1 + 1) (L9z' + 1 + 1) (L9z' + 1) oc oc2 oc3 (lf, PySem.W.listOf itf kf) ns' i m₁ nw)
        ⟨0, a.W, a.f, a.cr, tW, tf, tc, _, oou, ens, ke, by simp, by omega, by omega, rfl, Int.le_refl _, by omega, by omega, hc0, hc1, (by rw [List.take_zero, keepN_nil]; exact hU), (by rw [List.take_zero, List.append_nil]; exact hE), rfl⟩ ?step3 ?done3
      case step3 =>
        intro i v m₁ nw I oI h tk hv hJ hdm hnI F N
        refine gen_P fun G9 kG9 => ?_
        obtain ⟨S, W, f, cr, tW2, tf2, tc2, to, oo, ens2, ke2, hS, hS1, hS2, hoct, hW1, hW2, hf, hcr0, hcr1, hoo, hE2, rfl⟩ := hJ
        dsimp only [envOf, envOfC] at F N
        simp only [tmp, hoct] at F
        have hv' : itf.toList[i]? = some v := by simpa using hv
        rw [hitf, List.getElem?_map] at hv'
        obtain ⟨⟨pn, pt, pz, qa, qd, qu⟩, hpi, rfl⟩ : ∃ p, (pksOf a.ps ns')[i]? = some p ∧ v = .ref p.a := by
          cases q : (pksOf a.ps ns')[i]? with
          | none => rw [q] at hv'; cases hv'
          | some p => rw [q] at hv'; exact ⟨p, rfl, by cases hv'; rfl⟩
        have hni : ns'[i]? = some pn := by
          have h1 := congrArg (fun l => l[i]?) hpm
          simp only [List.getElem?_map, hpi, Option.map_some] at h1
          exact h1.symm
        have hpp : (⟨pn, pt, pz, qa, qd, qu⟩ : Pk) ∈ a.ps := ((pks_mem hO.nd2).mp (List.mem_of_getElem? hpi)).1
        obtain ⟨hz1, hz2⟩ := hO.z _ hpp
        have hfr : pn ∉ ns'.take i := by
          intro q
          have e := split_at hni
          rw [e, List.nodup_append] at hns
          exact hns.2.2 _ q _ (.head _) rfl
        have hval := value_out (keepN_nodup hO.nd2 (ns'.take i)) (keepN_mem.mpr ⟨hpp, hfr⟩)
        have hz6 : (outOf (keepN a.ps (ns'.take i))).length ≤ 16777216 := by
          have h6 : (keepN a.ps (ns'.take i)).length ≤ a.ps.length := List.length_filter_le _ _
          simp only [List.length_map]
          omega
        have hin : i < ns'.length := (List.getElem?_eq_some_iff.mp hni).1
        have hse2 : ens2.size ≤ 200 := by
          have h1 := hE2.length
          rw [Array.length_toList, List.length_append, List.length_take] at h1
          omega
        obtain ⟨pa, ⟨k0, k1, k2, k3', k4, k5, sn, st, sz, fr, pd⟩, s1, s2, pu⟩ := hP2 _ hpp
        refine kG9 ?_
        clear kG9
        dsimp only at hz1 hz2 hval pa pd pu
        dsimp only [mains, List.cons_append, List.nil_append] at N hnI ⊢
        simp only [all_cons] at hnI
        refine gen_P fun G9 kG9 => ?_
        obtain ⟨n1, n2, n3, n4, n5, n6, n7, n8, n9, n10, n11, n12, n13, nR⟩ := hnI
        refine kG9 ?_
        clear kG9
        have x1 := r6 _ pa
        have x2 := r7 _ pa
        have x3 := r8 _ pa
        have x4 := r9 _ pa
        have x5 := r6 _ pd
        have x6 := r7 _ pd
        have x7 := r8 _ pd
        have x8 := r9 _ pd
        have x9 := r6 _ pu
        have x10 := r7 _ pu
        have x11 := r8 _ pu
        have x12 := r9 _ pu
        dsimp only at x1 x2 x3 x4 x5 x6 x7 x8 x9 x10 x11 x12
        have N9 := News.sub (l' := (qa, instObj 204 qd) :: (qd, pkD w k0 k1 k2 k3' k4 k5 (.int pn sn) (.int pt st) (.int pz sz) fr (.bool true) (.bool true)) :: (qu, tupO [.int pt s1, .int pz s2]) :: (I, oI) :: (lf, PySem.W.listOf itf kf) :: (L9z' + 1 + 1 + 1, oc) :: (L9z' + 1 + 1, oc2) :: (L9z' + 1, oc3) :: (mains w (⟨ap, asc, aw, asp, dsp, ast, act, dct, aou, aen, T, Tc, nm, ak, lt, rc, ls, lm, fu, un, wn, hn, ec, gn, c, tg⟩ : Fx) { a with dr := dr, la := .int l9 t9, W := W, f := f, cr := cr } p1 t1 t2 tN le tW2 tf2 tc2 th rcv ow os oo ens2 ke2 ++ R')) N
          (sub_cons (by (repeat (first | exact pa | refine List.Mem.tail _ ?_))) (sub_cons (by (repeat (first | exact pd | refine List.Mem.tail _ ?_))) (sub_cons (by (repeat (first | exact pu | refine List.Mem.tail _ ?_))) (by simp only [mains, List.cons_append, List.nil_append]; tb_rel))))
        dsimp only [mains, List.cons_append, List.nil_append] at N9
        clear N
        (repeat' (first | (k_unfold; (try dsimp only)) | (k_end; wrow_close) | (with_reducible first | (k_here; (show wpAny _ _ (call (Value.ref 344) _) _ _ _); k_dflt (refine' Spec.useG (spec_draw _ _ _ _ _ _ _ _ _ _ _ _ ?dhi ?dhl ?dp0 ?dp1 ?dp2 ?dp3 ?dm0 ?dm1) ?zB ?zF ?zX ?zN ?zP ?zA ?zR ?zT ?zk ?zd ?zu ?_); top_raise; (case zP => ktr_rel); (case zR => (intro g1 st1 _; exact isList_stays st1 (by assumption))); (case dhi | dhl => assumption); (case dp0 | dp1 | dp2 | dp3 | dm0 | dm1 => omega); (case zA => ktr_unf); top_raise0; top_args; k_dflt (obtain ⟨r', tr', p0', t0', t2', e1', hr0', hr1', hp0', hp1', e2'⟩ := P'; top_argsB)) | (k_here; (show wpAny _ _ (call (Value.ref 117) _) _ _ _); k_dflt (refine' Spec.useG (spec_acked _ _ _ _ _ _ _ _ _ _ _ _ _ _ _ _ _ _ _ _ ?kth ?krc ?kne ?kW ?kW2 ?kz ?kz2 ?kc ?kc2) ?zB ?zF ?zX ?zN ?zP ?zA ?zR ?zT ?zk ?zd ?zu ?_); top_raise; (case zP => ktr_rel); (case kth | krc => assumption); (case kne => k_ne); (case kW | kW2 | kz | kz2 | kc | kc2 => omega); top_raiseB; top_args; k_dflt (obtain ⟨Wd', cr', ta', tb', tc'', e1', hW1', hW2', hc1', hc2', e2'⟩ := P'; top_argsB)) | (k_here; (show wpAny _ _ (call (Value.ref 304) _) _ _ _); k_dflt (refine' Spec.useG (spec_note_largest _ _ _ _ _ _ _ _ _ _ _ _ _ _ _ _ _ _ _ _ _ _ ?nla ?nlh) ?zB ?zF ?zX ?zN ?zP ?zA ?zR ?zT ?zk ?zd ?zu ?_); top_raise; (case zP => ktr_rel); (case nla => assumption); (case nlh => k_ne); top_raiseB; top_args; k_dflt (obtain ⟨l9, t9, e1', hl9a, hl9b, e2'⟩ := P'; top_argsB)) | (k_here; (show wpAny _ _ (call (Value.builtin "max") [Value.ref _]) _ _ _); k_dflt (refine' max_dict rfl ?mxF ?mxN ?mxd ?mxD ?mxl ?mxn ?_; (case mxF => k_asm); (case mxN => k_asm); (case mxd => k_mem); (case mxD => assumption); (case mxl => assumption); (case mxn => assumption)); intro M' tM' h' tk' F' N' hM') | (k_here; (show wpAny _ _ (call (Value.builtin "list.append") [Value.ref _, _]) _ _ _); k_dflt (refine' append_K ?k1 ?k2 ?k3 ?_ ?z; (case k1 => k_asm); (case k2 => k_asm); (case k3 => k_upd); (case z => (rw [sizeLine_eq]; omega)); k_whole); intro h' F' N') | (k_here; (show wpAny _ _ (call (Value.builtin "dict.pop") [Value.ref _, Value.int _ _]) _ _ _); k_dflt (refine' kob_pop (knd := PySem.intKind _ _) (more := []) ?F ?N ?U ?d (intKind_is _ _ _ _) (.inl rfl) (by rfl) (PySem.F.args_dict_pop_2 _ _) ?l ?z ?_; (case F => k_asm); (case N => k_asm); (case U => k_updF); (case d => assumption); (case l => assumption); (case z => (rw [sizeLine_eq]; assumption))); intro h' o' F' N' hd'; (try dsimp only at N')) | (k_here; (show wpAny _ _ (compareOp CmpOp.NotIn (Value.int _ _) (Value.ref _)) _ _ _); k_dflt (refine' kdg_notin (knd := PySem.intKind _ _) ?sN ?sp ?sd ?so (intKind_is _ _ _ _) true ?sv ?_; (case sN => k_asm); (case sp => k_mem); (case sd => assumption); (case so => assumption); (case sv => (rename valueAt _ _ = some _ => hv9; rw [hv9]; rfl)))) | (k_here; (show wpAny _ _ (eval (Expr.ListComp _ [⟨_, _, [_], _⟩] _ _) _) _ _ _); k_dflt (refine LCt.ListComp_T (F₀ := by k_asm) (by with_unfolding_all rfl) (by decide) (by rfl) (by decide) (by rfl) ?_)) | (k_here; (show wpAny _ _ (eval (Expr.ListComp _ [⟨_, _, [], _⟩] _ _) _) _ _ _); k_dflt (refine LCg.ListComp_U (F₀ := by k_asm) (by with_unfolding_all rfl) (by decide) (by rfl) (by decide) (by rfl) ?_)) | (k_here; (show wpAny _ _ (subscriptTail _ _ (Value.ref _) (Value.str _ _)) _ _ _); k_dflt (refine' kda_item (knd := PySem.strKind _ _) ?N ?p ?d (strKind_is _ _ _ _) ?l ?_; (case N => k_asm); (case p => k_mem); (case d => assumption); (case l => exact rfl)))) | walk1 | dsimp only | (leave1; try dsimp only) | fail "no step"))
        all_goals (try dsimp only)
        rename Obj.IsDictOf _ _ (without _ _) => hd9
        rw [without_out, ← keepN_snoc, ← take_snoc hni] at hd9
        refine ForEnd.of (nw := (lf, PySem.W.listOf itf kf) :: (L9z' + 1 + 1 + 1, oc) :: (L9z' + 1 + 1, oc2) :: (L9z' + 1, oc3) :: (mains w (⟨ap, asc, aw, asp, dsp, ast, act, dct, aou, aen, T, Tc, nm, ak, lt, rc, ls, lm, fu, un, wn, hn, ec, gn, c, tg⟩ : Fx) { a with dr := dr, la := .int l9 t9, W := Wd', f := f - pz, cr := cr' } p1 t1 t2 tN le ta' tb' tc'' th rcv ow os _ (ens2.push (.int pn _)) (ke2 + 1) ++ R')) (by k_asm) (by k_asm) ⟨⟨S + pz, Wd', f - pz, cr', ta', tb', tc'', _, _, _, _, ?e1, by omega, by omega, if_pos rfl, by omega, by omega, by omega, hc1', hc2', hd9, ?e3, rfl⟩,
          (by intro y hy; simp only [List.mem_cons, List.not_mem_nil, or_false, not_or] at hy; simp only [hy.1, hy.2, if_false, tmp]; try rfl)⟩ (by k_mem)
          (by simp only [mains, List.cons_append, List.nil_append]; tb_rel) (by simp only [mains, List.cons_append, List.nil_append, all_cons]; exact ⟨n1, n2, n3, n4, n5, n6, n7, n8, n9, n10, n11, n12, n13, nR⟩) (sub_cons (.head _) sub_nil)
        case e1 => rw [take_snoc hpi, List.map_append, List.sum_append, ← hS]; simp
        case e3 => rw [Array.toList_push, take_snoc hni, ← List.append_assoc]; exact IntsAre.append hE2 (.cons _ _ .nil)
      case done3 =>
        intro h' tk m' nw F N hJ
        refine gen_P fun G9 kG9 => ?_
        obtain ⟨S, W, f, cr, tW2, tf2, tc2, to, oo, ens2, ke2, hS, hS1, hS2, hoct, hW1, hW2, hf, hcr0, hcr1, hoo, hE2, rfl⟩ := hJ
        refine kG9 ?_
        clear kG9
        dsimp only [envOf, envOfC] at F N
        simp only [tmp, hoct] at F
        have ei : ns'.take itf.size = ns' := List.take_of_length_le (by omega)
        have ep : (pksOf a.ps ns').take itf.size = pksOf a.ps ns' := List.take_of_length_le (by have h2 := congrArg List.length hpm; rw [List.length_map] at h2; omega)
        rw [ei] at hoo hE2
        rw [ep] at hS
        dsimp only [mains, List.cons_append, List.nil_append] at N
        (repeat' (first | (k_unfold; (try dsimp only)) | (k_end; wrow_close) | (with_reducible first | (k_here; (show wpAny _ _ (call (Value.ref 344) _) _ _ _); k_dflt (refine' Spec.useG (spec_draw _ _ _ _ _ _ _ _ _ _ _ _ ?dhi ?dhl ?dp0 ?dp1 ?dp2 ?dp3 ?dm0 ?dm1) ?zB ?zF ?zX ?zN ?zP ?zA ?zR ?zT ?zk ?zd ?zu ?_); top_raise; (case zP => ktr_rel); (case zR => (intro g1 st1 _; exact isList_stays st1 (by assumption))); (case dhi | dhl => assumption); (case dp0 | dp1 | dp2 | dp3 | dm0 | dm1 => omega); (case zA => ktr_unf); top_raise0; top_args; k_dflt (obtain ⟨r', tr', p0', t0', t2', e1', hr0', hr1', hp0', hp1', e2'⟩ := P'; top_argsB)) | (k_here; (show wpAny _ _ (call (Value.ref 117) _) _ _ _); k_dflt (refine' Spec.useG (spec_acked _ _ _ _ _ _ _ _ _ _ _ _ _ _ _ _ _ _ _ _ ?kth ?krc ?kne ?kW ?kW2 ?kz ?kz2 ?kc ?kc2) ?zB ?zF ?zX ?zN ?zP ?zA ?zR ?zT ?zk ?zd ?zu ?_); top_raise; (case zP => ktr_rel); (case kth | krc => assumption); (case kne => k_ne); (case kW | kW2 | kz | kz2 | kc | kc2 => omega); top_raiseB; top_args; k_dflt (obtain ⟨Wd', cr', ta', tb', tc'', e1', hW1', hW2', hc1', hc2', e2'⟩ := P'; top_argsB)) | (k_here; (show wpAny _ _ (call (Value.ref 304) _) _ _ _); k_dflt (refine' Spec.useG (spec_note_largest _ _ _ _ _ _ _ _ _ _ _ _ _ _ _ _ _ _ _ _ _ _ ?nla ?nlh) ?zB ?zF ?zX ?zN ?zP ?zA ?zR ?zT ?zk ?zd ?zu ?_); top_raise; (case zP => ktr_rel); (case nla => assumption); (case nlh => k_ne); top_raiseB; top_args; k_dflt (obtain ⟨l9, t9, e1', hl9a, hl9b, e2'⟩ := P'; top_argsB)) | (k_here; (show wpAny _ _ (call (Value.builtin "max") [Value.ref _]) _ _ _); k_dflt (refine' max_dict rfl ?mxF ?mxN ?mxd ?mxD ?mxl ?mxn ?_; (case mxF => k_asm); (case mxN => k_asm); (case mxd => k_mem); (case mxD => assumption); (case mxl => assumption); (case mxn => assumption)); intro M' tM' h' tk' F' N' hM') | (k_here; (show wpAny _ _ (call (Value.builtin "list.append") [Value.ref _, _]) _ _ _); k_dflt (refine' append_K ?k1 ?k2 ?k3 ?_ ?z; (case k1 => k_asm); (case k2 => k_asm); (case k3 => k_upd); (case z => (rw [sizeLine_eq]; omega)); k_whole); intro h' F' N') | (k_here; (show wpAny _ _ (call (Value.builtin "dict.pop") [Value.ref _, Value.int _ _]) _ _ _); k_dflt (refine' kob_pop (knd := PySem.intKind _ _) (more := []) ?F ?N ?U ?d (intKind_is _ _ _ _) (.inl rfl) (by rfl) (PySem.F.args_dict_pop_2 _ _) ?l ?z ?_; (case F => k_asm); (case N => k_asm); (case U => k_updF); (case d => assumption); (case l => assumption); (case z => (rw [sizeLine_eq]; assumption))); intro h' o' F' N' hd'; (try dsimp only at N')) | (k_here; (show wpAny _ _ (compareOp CmpOp.NotIn (Value.int _ _) (Value.ref _)) _ _ _); k_dflt (refine' kdg_notin (knd := PySem.intKind _ _) ?sN ?sp ?sd ?so (intKind_is _ _ _ _) true ?sv ?_; (case sN => k_asm); (case sp => k_mem); (case sd => assumption); (case so => assumption); (case sv => (rename valueAt _ _ = some _ => hv9; rw [hv9]; rfl)))) | (k_here; (show wpAny _ _ (eval (Expr.ListComp _ [⟨_, _, [_], _⟩] _ _) _) _ _ _); k_dflt (refine LCt.ListComp_T (F₀ := by k_asm) (by with_unfolding_all rfl) (by decide) (by rfl) (by decide) (by rfl) ?_)) | (k_here; (show wpAny _ _ (eval (Expr.ListComp _ [⟨_, _, [], _⟩] _ _) _) _ _ _); k_dflt (refine LCg.ListComp_U (F₀ := by k_asm) (by with_unfolding_all rfl) (by decide) (by rfl) (by decide) (by rfl) ?_)) | (k_here; (show wpAny _ _ (subscriptTail _ _ (Value.ref _) (Value.str _ _)) _ _ _); k_dflt (refine' kda_item (knd := PySem.strKind _ _) ?N ?p ?d (strKind_is _ _ _ _) ?l ?_; (case N => k_asm); (case p => k_mem); (case d => assumption); (case l => exact rfl)))) | walk1 | dsimp only | (leave1; try dsimp only) | fail "no step"))
        all_goals (try dsimp only)
        have hO9 := hO.stop hns hns3 (List.Perm.refl ns') (W := W) (f := f) (cr := cr) (la := .int l9 t9) (by omega) (by omega) hcr0 hcr1 (by omega)
        exact hQ0 _ _ (leaf_lay (X := (⟨ap, asc, aw, asp, dsp, ast, act, dct, aou, aen, T, Tc, nm, ak, lt, rc, ls, lm, fu, un, wn, hn, ec, gn, c, tg⟩ : Fx)) (a := { a with al := keepN a.ps ns', ps := keepN a.ps ns', qs := keepN a.ps ns', ends := a.ends ++ ns', W := W, f := f, cr := cr, la := .int l9 t9, dr := dr }) (by k_asm) (by k_asm)
          (lay_in (R := R') (by k_asm) (by dsimp only; k_mem) (by dsimp only; k_mem) (by dsimp only; k_mem) (by dsimp only; k_mem) (by dsimp only; k_mem) (by dsimp only; k_mem) (by dsimp only; k_mem) (by dsimp only; k_mem) (by dsimp only; k_mem) (by tb_rel) ⟨hp1, hp1'⟩ hth hrc (.int _ _) hW hSo hoo hE2 (fun p hp => hP2 p (keepN_mem.mp hp).1) ⟨r1, r2, r3, r4, r5, r6, r7, r8, r9⟩ rfl rfl rfl rfl rfl rfl rfl)
          fun nw h => ⟨_, by rw [decide_eq_true (by omega)], h, hO9.setdr (by omega), rfl, by dsimp only; omega, rfl⟩)

end
end

section
open PySem PySem.W PyProof.Rows PySem.Calls LCg LCt
set_option maxRecDepth 100000
set_option maxHeartbeats 0
set_option linter.unusedVariables false
section



set_option hygiene false
set_option hygiene true
-- the tactics of the kit that this text gives a meaning of its own: ktr_rel the entries picked, ktr_unf what stands apart

theorem fd12 {k : Nat} (h : k ≤ 24) : 0 ≤ (k : Int).fdiv 2 ∧ (k : Int).fdiv 2 ≤ 12 := by
  rw [Int.fdiv_eq_ediv_of_nonneg _ (by decide)]
  omega
theorem law_lay {w : World} {g h' : Heap} {L : Addr} {all : List (Addr × Obj)} (N : News g L h' all) {ap asc aw asp dsp ast act dct aou aen : Addr} {k0 k1 k2 k3 k4 k5 k6 k7 k8 k9 k10 k11 k12 k13 k14 k15 j0 j1 j2 j3 j4 j5 t0 t2 tN tg tW tf tc tn : Tok} {ow ost oou : Obj} {p0 : Int} {c : Nat} {nm ak le lt rc ls lm fu un wn hn ec gn : Value}
    (m1 : (ap, PySem.W.listOf #[.int p0 t0, .ref asc, .int 0 t2] c) ∈ all) (m2 : (aw, ow) ∈ all) (m3 : (asp, instObj 333 dsp) ∈ all) (m4 : (dsp, dictOf [ent w "name" k0 nm, ent w "next_number" k1 (.int 0 tN), ent w "sent" k2 (.ref ast), ent w "largest_acked" k3 .none, ent w "acked" k4 ak, ent w "last_eliciting_time" k5 le, ent w "loss_time" k6 lt, ent w "received" k7 rc, ent w "largest_seen" k8 ls, ent w "largest_time" k9 lm, ent w "first_unacked" k10 fu, ent w "unacked" k11 un, ent w "wants_now" k12 wn, ent w "has_new" k13 hn, ent w "ecn" k14 ec, ent w "is_gone" k15 gn] 16) ∈ all) (m5 : (ast, ost) ∈ all) (m6 : (act, instObj 148 dct) ∈ all) (m7 : (dct, dictOf [ent w "datagram" j0 (.int 100 tg), ent w "window" j1 (.int 1000 tW), ent w "threshold" j2 .none, ent w "recovery_at" j3 .none, ent w "in_flight" j4 (.int 0 tf), ent w "credit" j5 (.int 0 tc)] 6) ∈ all)
    (m8 : (aou, oou) ∈ all) (m9 : (aen, PySem.W.listOf #[] 0) ∈ all) (hp : 0 ≤ p0 ∧ p0 < 1009) (hW : ow.IsDictOf (strKind PySem.Challenge.rw_pb0526_01.row.prog w) (wdK asp act 10000 tn aou aen))
    (hS : ost.IsDictOf (intKind PySem.Challenge.rw_pb0526_01.row.prog w) []) (hU : oou.IsDictOf (intKind PySem.Challenge.rw_pb0526_01.row.prog w) [])
    (n10 : ap ≠ asc ∧ aw ≠ asc ∧ asp ≠ asc ∧ dsp ≠ asc ∧ ast ≠ asc ∧ act ≠ asc ∧ dct ≠ asc ∧ aou ≠ asc ∧ aen ≠ asc) (n9 : [ap, aw, asp, dsp, ast, act, dct, aou, aen].Pairwise (· ≠ ·)) (s1 : (aw == sysModules) = false) (s2 : (ast == sysModules) = false) (s3 : (aou == sysModules) = false) :
    ∃ (X : Fx) (a : Ab) (nw : List (Addr × Obj)), X.ap = ap ∧ X.aw = aw ∧ X.asc = asc ∧ Nine X ∧ Lay w X a nw ∧ Ok a ∧ (∀ p ∈ nw, p ∈ all) ∧ a.N = 0 ∧ a.dr = 0 ∧ ∀ p ∈ nw, p.1 ≠ asc := by
  have h := lay_in (w := w) (X := ⟨ap, asc, aw, asp, dsp, ast, act, dct, aou, aen, fun i => [k0, k1, k2, k3, k4, k5, k6, k7, k8, k9, k10, k11, k12, k13, k14, k15].getD i 0, fun i => [j0, j1, j2, j3, j4, j5].getD i 0, nm, ak, lt, rc, ls, lm, fu, un, wn, hn, ec, gn, c, tg⟩) (a := ⟨[], [], [], [], 0, .none, 1000, 0, 0, 10000, 0⟩) (R := []) N m1 m2 m3 m4 m5 m6 m7 m8 m9 sub_nil hp .none .none .none hW hS hU .nil
    (fun _ h => nomatch h) ⟨(fun _ h => nomatch h), (fun _ h => nomatch h), (fun _ h => nomatch h), (fun _ h => nomatch h), (fun _ h => nomatch h), (fun _ h => nomatch h), (fun _ h => nomatch h), (fun _ h => nomatch h), (fun _ h => nomatch h)⟩ rfl rfl rfl rfl rfl rfl rfl
  obtain ⟨nw, h1, h2, h3⟩ := h
  exact ⟨_, _, nw, rfl, rfl, rfl, ⟨n9, s1, s2, s3⟩, h1, ⟨rfl, rfl, rfl, List.Perm.refl _, by decide, by decide, by decide, by decide, (fun _ h => nomatch h), by decide, by decide⟩, h2, rfl, rfl, h3 asc n10 (fun _ h => nomatch h)⟩

/-- the world opened at what the law itself touches -/
theorem lay_open {w : World} {X : Fx} {a : Ab} {nw : List (Addr × Obj)} (h9 : Nine X) (hL : Lay w X a nw) :
    ∃ p0 t0 t2 tn ow Rw, (0 ≤ p0 ∧ p0 < 1009) ∧ ow.IsDictOf (strKind PySem.Challenge.rw_pb0526_01.row.prog w) (wdK X.asp X.act a.now tn X.aou X.aen) ∧
      (∀ p ∈ (X.ap, PySem.W.listOf #[.int p0 t0, .ref X.asc, .int a.dr t2] X.c) :: (X.aw, ow) :: Rw, p ∈ nw) ∧ (∀ p ∈ Rw, p.1 ≠ X.ap) ∧ (∀ p ∈ Rw, p.1 ≠ X.aw) ∧
      ∀ p0' t0' t2' tn' ow' dr' now', (0 ≤ p0' ∧ p0' < 1009) → ow'.IsDictOf (strKind PySem.Challenge.rw_pb0526_01.row.prog w) (wdK X.asp X.act now' tn' X.aou X.aen) →
        ∃ nw', Lay w X { a with dr := dr', now := now' } nw' ∧ ∀ p ∈ nw', p ∈ (X.ap, PySem.W.listOf #[.int p0' t0', .ref X.asc, .int dr' t2'] X.c) :: (X.aw, ow') :: Rw := by
  refine gen_P fun G9 kG9 => ?_
  refine Lay.elim hL fun p0 t0 t2 tN le tW tf tc th rcv tn ow ost oou ens ke R hp0 hp0' hth hrc hla hW hS hU hE hP r1 r2 r3 r4 r5 r6 r7 r8 r9 enw => ?_
  refine Nine.elim h9 fun h01 h02 h03 h04 h05 h06 h07 h08 h12 h13 h14 h15 h16 h17 h18 h23 h24 h25 h26 h27 h28 h34 h35 h36 h37 h38 h45 h46 h47 h48 h56 h57 h58 h67 h68 h78 _ _ _ => ?_
  cases enw
  refine kG9 ?_
  clear kG9
  have hp : 0 ≤ p0 ∧ p0 < 1009 := ⟨hp0, hp0'⟩
  have hR : Off X R := ⟨r1, r2, r3, r4, r5, r6, r7, r8, r9⟩
  refine ⟨p0, t0, t2, tn, ow, (mains w X a p0 t0 t2 tN le tW tf tc th rcv ow ost oou ens ke).drop 2 ++ R, hp, hW, fun p hp => hp, ?_, ?_, ?_⟩
  · intro p hq
    rcases List.mem_append.mp hq with hq | hq
    · have : ∀ q ∈ (mains w X a p0 t0 t2 tN le tW tf tc th rcv ow ost oou ens ke).drop 2, q.1 ≠ X.ap := by
        simp only [mains, List.drop_succ_cons, List.drop_zero, all_cons, all_nil, and_true]
        exact ⟨Ne.symm h02, Ne.symm h03, Ne.symm h04, Ne.symm h05, Ne.symm h06, Ne.symm h07, Ne.symm h08⟩
      exact this p hq
    · exact hR.1 p hq
  · intro p hq
    rcases List.mem_append.mp hq with hq | hq
    · have : ∀ q ∈ (mains w X a p0 t0 t2 tN le tW tf tc th rcv ow ost oou ens ke).drop 2, q.1 ≠ X.aw := by
        simp only [mains, List.drop_succ_cons, List.drop_zero, all_cons, all_nil, and_true]
        exact ⟨Ne.symm h12, Ne.symm h13, Ne.symm h14, Ne.symm h15, Ne.symm h16, Ne.symm h17, Ne.symm h18⟩
      exact this p hq
    · exact hR.2.1 p hq
  · intro p0' t0' t2' tn' ow' dr' now' hp' hW'
    exact ⟨_, ⟨p0', t0', t2', tN, le, tW, tf, tc, th, rcv, tn', ow', ost, oou, ens, ke, R, hp', hth, hrc, hla, hW', hS, hU, hE, hP, hR, rfl⟩, fun p hp => hp⟩
theorem Ok.setnow {a : Ab} (h : Ok a) {dr now : Int} (hd : 0 ≤ dr) : Ok { a with dr := dr, now := now } := ⟨h.al, h.qs, h.f, h.perm, h.W, h.Wu, h.cr, h.cu, h.z, hd, h.N⟩

theorem law_cps {w : World} {g h' : Heap} {L : Addr} {all : List (Addr × Obj)} {ap aw asc : Addr} {oA : Obj} {P : Prop}
    (h : ∃ (X : Fx) (a : Ab) (nw : List (Addr × Obj)), X.ap = ap ∧ X.aw = aw ∧ X.asc = asc ∧ Nine X ∧ Lay w X a nw ∧ Ok a ∧ (∀ p ∈ nw, p ∈ all) ∧ a.N = 0 ∧ a.dr = 0 ∧ ∀ p ∈ nw, p.1 ≠ asc)
    (N : News g L h' all) (mA : (asc, oA) ∈ all)
    (k : ∀ (X : Fx) (a : Ab) (nw : List (Addr × Obj)), ap = X.ap → aw = X.aw → asc = X.asc → Nine X → Lay w X a nw → Ok a → a.N = 0 → a.dr = 0 → (∀ p ∈ nw, p.1 ≠ X.asc) → News g L h' ((X.asc, oA) :: nw) → P) : P := by
  obtain ⟨X, a, nw, rfl, rfl, rfl, h9, hL, hO, hs, hN, hdr, hasc⟩ := h
  exact k X a nw rfl rfl rfl h9 hL hO hN hdr hasc (News.sub N (sub_cons mA hs))
end
end

section
open PySem PySem.W PyProof.Rows PySem.Calls LCg LCt
set_option maxRecDepth 100000
set_option maxHeartbeats 8000000
set_option linter.unusedVariables false
section
theorem fresh_In : True := by
  w_top off
  exact trivial

section
variable {prog : Program} {w : World} {A₀ A : Around} {s : Shared} {base h₀ : Heap} {outer : List Env} {L : Addr} {m : Str → Option Value} {env : Env} {news mine rest : List (Addr × Obj)}
  {Q E : Value → Shared → Prop} {name qual : Str} {params : Arguments} {body : List Stmt} {scope : Scope} {dV kV doc pm cdv ct oc : Value} {an od : Option Addr} {osl : Array (Option Value)} {f : Addr} {vs : List Value} {binds : List (Str × Value)}
  {K : Frag} {p : Program} {loose : List Str} {mean : ExcName → Option Value} {mg mb : Str → Option Value} {Post : Value → List (Addr × Obj) → Prop}

theorem fr_code (B : Below A₀ base outer h₀) (F : Fr h₀ L s.heap m) (X₀ : K.In h₀) (N : News h₀ L s.heap news) (hsub : ∀ p ∈ mine, p ∈ news) (hrs : ∀ p ∈ rest, p ∈ news) (Ap : Apart rest mine)
    (T : Top p loose mean mg mb h₀) (hA : A.frames = some (env :: outer)) (hf : env.frame = some L) (hke : env.scope.kind = .function)
    (ho : K.lookup f = some ⟨oc, od, .func (fnOf name qual params body scope dV kV doc pm an cdv ct), osl⟩) (hcd : codeIn K cdv qual = true) (hroom : A.depth < recursionLimit)
    (hbind : BindsTo s (fnOf name qual params body scope dV kV doc pm an cdv ct) ⟨vs, []⟩ binds) (hloc : ∀ y ∈ binds, scope.names.lookup y.1 = some .local)
    (ret : ∀ v post h' tk', Fr h₀ L h' m → News h₀ L h' (post ++ rest) → Apart rest post → Post v post → R (.ok (.ret v)) { s with heap := h', toks := tk' })
    (h : ∀ g L' h₁ tk₁, h₀.StaysIn g → (∀ p ∈ rest, g.get? p.1 = some p.2) → Fr g L' h₁ (fun y => binds.reverse.lookup y) → News g L' h₁ mine → Below A base (env :: outer) g → K.In g → Top p loose mean mg mb g →
      wpAny (model prog w) (A.deeper (envOf qual scope L' f cdv)) (execs body (envOf qual scope L' f cdv))
        (fun fl s' => LeafQ g L' { s with heap := h₁, toks := tk₁ } Post (match fl with | .ret v => v | _ => .none) s') (fun _ _ => False) { s with heap := h₁, toks := tk₁ })
    (hco : scope.isCoroutine = false) (hgen : scope.isGenerator = false) (hk : scope.kind = .function) (hcell : ∀ x ∈ scope.names, x.2 ≠ .cell) :
    codeAny (model prog w) A (.call (.ref f) ⟨vs, []⟩) R s := by
  have Nm : News h₀ L s.heap mine := fun p hp => N p (hsub p hp)
  obtain ⟨FG, BG, st, _⟩ := groundX (R := fun _ _ => True) B F Nm hA hf hke
  have hrest : ∀ p ∈ rest, (hideAll s.heap (mine.map (·.1))).get? p.1 = some p.2 := fun p hp => hideAll_get _ (N p (hrs p hp)).1 fun q => by
    obtain ⟨q', hq', e⟩ := List.mem_map.mp q
    exact Ap q' hq' p hp e.symm
  refine codeAny_call_def (fd := fnOf name qual params body scope dV kV doc pm an cdv ct) (body := body) (binds := binds) hroom ((X₀.keeps F.keep) _ _ ho) rfl (T.nolimit.keeps F.keep) (codeRec_of (X₀.keeps F.keep) hcd) rfl hbind hcell hloc (fun h₁ hns hk₁ => ?_) hco hgen hk
  exact wpAny_mono (h _ s.heap.objs.size h₁ _ st hrest ⟨hns, fun b o e => hk₁ b o (of_hideAll _ e), Nat.le_of_eq (hideAll_size _ _)⟩
    (fun p hp => ⟨hk₁ _ _ (Nm p hp).1, Nat.ne_of_lt (Heap.lt_size (Nm p hp).1), hideAll_none _ (List.mem_map_of_mem hp)⟩) BG (X₀.keeps st) (T.keeps st)) (fun fl s' hl => frame_back (Q := fun v s' => R (.ok (.ret v)) s') B F N hsub hrs Ap hA hf hke ret _ _ hl) fun _ _ y => y.elim
end
/-- what a call of a def does: mine is its own part of the ledger, Ro what it reads of the rest -/
def SpecI (w : World) (f : Addr) (D U : Nat) (vs : List Value) (mine : List (Addr × Obj)) (Post : Value → List (Addr × Obj) → Prop) : Prop :=
  ∀ (dp un : Nat) (gd : Option (List Code)) (cn : Str) (cs : Scope) (a : Addr) (ccd : Value) (cl : List (Str × Addr)) (outer : List Env) (A₀ : Around) (base h₀ : Heap) (L : Addr) (m : Str → Option Value) (s : Shared) (R : Result → Shared → Prop) (C : Addr) (pos : List Value) (kw : List (Str × Value))
    (mean : ExcName → Option Value) (mg mb : Str → Option Value) (news rest : List (Addr × Obj)),
    Below A₀ base outer h₀ → Fr h₀ L s.heap m → (hd.heap_1 w.params).In h₀ → News h₀ L s.heap news → (∀ p ∈ mine, p ∈ news) → (∀ p ∈ rest, p ∈ news) → Apart rest mine →
    Top q1 (looseW q1 []) mean mg mb h₀ → cs.kind = .function → dp + D < recursionLimit → un + U < cLine →
    (∀ v post h' tk', Fr h₀ L h' m → News h₀ L h' (post ++ rest) → Apart rest post → Post v post → R (.ok (.ret v)) { s with heap := h', toks := tk' }) →
    codeAny (model PySem.Challenge.rw_pb0526_01.row.prog w) ((ktrTop dp un gd cn cs L a ccd cl outer).under (.builtin "type.__call__" ⟨.ref C :: pos, kw⟩)) (.call (.ref f) ⟨vs, []⟩) R s


theorem SpecI.useG {w : World} {f : Addr} {D U : Nat} {vs : List Value} {mine : List (Addr × Obj)} {Post : Value → List (Addr × Obj) → Prop} (H : SpecI w f D U vs mine Post)
    {dp un : Nat} {gd : Option (List Code)} {cn : Str} {cs : Scope} {a : Addr} {ccd : Value} {cl : List (Str × Addr)} {outer : List Env} {A₀ : Around} {base h₀ : Heap} {L : Addr} {m : Str → Option Value} {s : Shared} {R : Result → Shared → Prop} {C : Addr} {pos : List Value} {kw : List (Str × Value)}
    {mean : ExcName → Option Value} {mg mb : Str → Option Value} {news rest : List (Addr × Obj)}
    (hB : Below A₀ base outer h₀) (hF : Fr h₀ L s.heap m) (hX : (hd.heap_1 w.params).In h₀) (hN : News h₀ L s.heap news) (hP : Picks mine news rest) (hA : Apart rest mine)
    (hT : Top q1 (looseW q1 []) mean mg mb h₀) (hk : cs.kind = .function) (hd : dp + D < recursionLimit) (hu : un + U < cLine)
    (ret : ∀ v post h' tk', Fr h₀ L h' m → News h₀ L h' (post ++ rest) → Apart rest post → Post v post → ∀ G : Prop, (R (.ok (.ret v)) { s with heap := h', toks := tk' } → G) → G) :
    codeAny (model PySem.Challenge.rw_pb0526_01.row.prog w) ((ktrTop dp un gd cn cs L a ccd cl outer).under (.builtin "type.__call__" ⟨.ref C :: pos, kw⟩)) (.call (.ref f) ⟨vs, []⟩) R s :=
  H dp un gd cn cs a ccd cl outer A₀ base h₀ L m s R C pos kw mean mg mb news rest hB hF hX hN hP.mem.1 hP.mem.2 hA hT hk hd hu fun v post h' tk' F N A P => ret v post h' tk' F N A P _ id


set_option hygiene false
set_option hygiene true
-- the tactics of the kit that this text gives a meaning of its own: ktr_rel the entries picked, ktr_unf what stands apart

/-- a Space that has just been made -/
inductive SpaceMade (w : World) (x dx : Addr) : Value → List (Addr × Obj) → Prop
  | mk (k0 k1 k2 k3 k4 k5 k6 k7 k8 k9 k10 k11 k12 k13 k14 k15 tN : Tok) (nm ak le lt rc ls lm fu un wn hn ec gn : Value) (ast : Addr) (ost : Obj) (hS : ost.IsDictOf (intKind PySem.Challenge.rw_pb0526_01.row.prog w) []) (lo : (ast == sysModules) = false) (n1 : x ≠ ast) (n2 : dx ≠ ast) :
    SpaceMade w x dx .none [(x, instObj 333 dx), (dx, dictOf [ent w "name" k0 nm, ent w "next_number" k1 (.int 0 tN), ent w "sent" k2 (.ref ast), ent w "largest_acked" k3 .none, ent w "acked" k4 ak, ent w "last_eliciting_time" k5 le, ent w "loss_time" k6 lt, ent w "received" k7 rc, ent w "largest_seen" k8 ls, ent w "largest_time" k9 lm, ent w "first_unacked" k10 fu, ent w "unacked" k11 un, ent w "wants_now" k12 wn, ent w "has_new" k13 hn, ent w "ecn" k14 ec, ent w "is_gone" k15 gn] 16), (ast, ost)]
inductive CtlMade (w : World) (x dx : Addr) : Value → List (Addr × Obj) → Prop
  | mk (j0 j1 j2 j3 j4 j5 tg tW tf tc : Tok) : CtlMade w x dx .none [(x, instObj 148 dx), (dx, dictOf [ent w "datagram" j0 (.int 100 tg), ent w "window" j1 (.int 1000 tW), ent w "threshold" j2 .none, ent w "recovery_at" j3 .none, ent w "in_flight" j4 (.int 0 tf), ent w "credit" j5 (.int 0 tc)] 6)]
theorem space_end {w : World} {g : Heap} {L' x dx ast : Addr} {s₁ : Shared} {h' : Heap} {tk' : Nat} {m' : Str → Option Value} {news : List (Addr × Obj)} {k0 k1 k2 k3 k4 k5 k6 k7 k8 k9 k10 k11 k12 k13 k14 k15 tN : Tok} {nm ak le lt rc ls lm fu un wn hn ec gn : Value} {ost : Obj}
    (F : Fr g L' h' m') (N : News g L' h' news) (h1 : (x, instObj 333 dx) ∈ news) (h2 : (dx, dictOf [ent w "name" k0 nm, ent w "next_number" k1 (.int 0 tN), ent w "sent" k2 (.ref ast), ent w "largest_acked" k3 .none, ent w "acked" k4 ak, ent w "last_eliciting_time" k5 le, ent w "loss_time" k6 lt, ent w "received" k7 rc, ent w "largest_seen" k8 ls, ent w "largest_time" k9 lm, ent w "first_unacked" k10 fu, ent w "unacked" k11 un, ent w "wants_now" k12 wn, ent w "has_new" k13 hn, ent w "ecn" k14 ec, ent w "is_gone" k15 gn] 16) ∈ news) (h3 : (ast, ost) ∈ news)
    (hS : ost.IsDictOf (intKind PySem.Challenge.rw_pb0526_01.row.prog w) []) (lo : (ast == sysModules) = false) (n1 : x ≠ ast) (n2 : dx ≠ ast) : LeafQ g L' s₁ (SpaceMade w x dx) .none { s₁ with heap := h', toks := tk' } :=
  LeafQ.of F N (sub_cons h1 (sub_cons h2 (sub_cons h3 sub_nil))) (.mk _ _ _ _ _ _ _ _ _ _ _ _ _ _ _ _ _ _ _ _ _ _ _ _ _ _ _ _ _ _ _ _ hS lo n1 n2)
theorem ctlm_end {w : World} {g : Heap} {L' x dx : Addr} {s₁ : Shared} {h' : Heap} {tk' : Nat} {m' : Str → Option Value} {news : List (Addr × Obj)} {j0 j1 j2 j3 j4 j5 tg tW tf tc : Tok}
    (F : Fr g L' h' m') (N : News g L' h' news) (h1 : (x, instObj 148 dx) ∈ news) (h2 : (dx, dictOf [ent w "datagram" j0 (.int 100 tg), ent w "window" j1 (.int 1000 tW), ent w "threshold" j2 .none, ent w "recovery_at" j3 .none, ent w "in_flight" j4 (.int 0 tf), ent w "credit" j5 (.int 0 tc)] 6) ∈ news) : LeafQ g L' s₁ (CtlMade w x dx) .none { s₁ with heap := h', toks := tk' } :=
  LeafQ.of F N (sub_cons h1 (sub_cons h2 sub_nil)) (.mk _ _ _ _ _ _ _ _ _ _)
theorem spec_space_init (w : World) (x dx : Addr) (nm : Str) (tn : Tok) (hne : x ≠ dx) : SpecI w 222 30 900 [.ref x, .str nm tn] [(x, instObj 333 dx), (dx, dictOf [] 0)] (SpaceMade w x dx) := by
  unfold SpecI
  k_fill
  intro dp un gd cn cs a ccd cl outer A₀ base h₀ L m s R C pos kw mean mg mb news rest hB hF hX hN hsub hrs hAp hT hk hd hu hret
  k_dflt (refine' fr_code hB hF hX hN hsub hrs hAp hT rfl rfl hk ?k6 ?k7 ?k8 ?k9 ?kB hret ?_ ?c2 ?c3 ?c4 ?c5; (case k6 => k_is); (case k7 => k_is); (case k8 => ktr_room); (case k9 => exact BindsTo.of_eq rfl); (case c5 => decide); (case kB => exact locs rfl); (case c2 => exact rfl); (case c3 => exact rfl); (case c4 => exact rfl))
  k_whole
  intro g' L' h' tk' st' hR' F' N' B' X' T'
  clear hB hF hX hN hsub hrs hAp hT hret st' hR'
  (try dsimp only)
  (try k_fold)
  refine gen_Q fun Q0 hQ0 => ?_
  k_steps
  all_goals (try dsimp only)
  all_goals exact hQ0 _ _ (space_end (by k_asm) (by k_asm) (by k_mem) (by k_mem) (by k_mem) (by assumption) (by assumption) (by k_ne) (by k_ne))
theorem spec_ctl_init (w : World) (x dx : Addr) (tn : Tok) (hne : x ≠ dx) : SpecI w 75 30 900 [.ref x, .int 100 tn] [(x, instObj 148 dx), (dx, dictOf [] 0)] (CtlMade w x dx) := by
  unfold SpecI
  k_fill
  intro dp un gd cn cs a ccd cl outer A₀ base h₀ L m s R C pos kw mean mg mb news rest hB hF hX hN hsub hrs hAp hT hk hd hu hret
  k_dflt (refine' fr_code hB hF hX hN hsub hrs hAp hT rfl rfl hk ?k6 ?k7 ?k8 ?k9 ?kB hret ?_ ?c2 ?c3 ?c4 ?c5; (case k6 => k_is); (case k7 => k_is); (case k8 => ktr_room); (case k9 => exact BindsTo.of_eq rfl); (case c5 => decide); (case kB => exact locs rfl); (case c2 => exact rfl); (case c3 => exact rfl); (case c4 => exact rfl))
  k_whole
  intro g' L' h' tk' st' hR' F' N' B' X' T'
  clear hB hF hX hN hsub hrs hAp hT hret st' hR'
  (try dsimp only)
  (try k_fold)
  refine gen_Q fun Q0 hQ0 => ?_
  k_steps
  all_goals (try dsimp only)
  all_goals exact hQ0 _ _ (ctlm_end (by k_asm) (by k_asm) (by k_mem) (by k_mem))
theorem apart_mem {rest post : List (Addr × Obj)} {y : Addr} {o : Obj} (A : Apart rest post) (m : (y, o) ∈ post) : ∀ p ∈ rest, p.1 ≠ y := A (y, o) m
end
end

section
open PySem PySem.W PyProof.Rows PySem.Calls LCg LCt
set_option maxRecDepth 100000
set_option maxHeartbeats 0
set_option linter.unusedVariables false
section
theorem fresh_Lw : True := by
  w_top off
  exact trivial



set_option hygiene false
set_option hygiene true
-- the tactics of the kit that this text gives a meaning of its own: ktr_rel the entries picked, ktr_unf what stands apart
local macro_rules | `(tactic| tb_rel) => `(tactic| first | (with_reducible exact sub_refl) | (with_reducible exact sub_skip sub_refl) | (with_reducible exact sub_skip (sub_skip sub_refl)) | ((with_reducible refine' sub_keep ?ska); (case ska => tb_rel)) | exact sub_nil | (refine sub_cons ?a ?b; (case a => k_mem); (case b => tb_rel)) | (intro q9 hq9; (repeat (first | assumption | refine List.Mem.tail _ ?_))))
theorem stored_now {asp act aou aen : Addr} {now n : Int} {tn t : Tok} : stored (wdK asp act now tn aou aen) (Str.ofString "now") (.int n t) = wdK asp act n t aou aen := by rfl
theorem nine_ab {X : Fx} (h : Nine X) : X.ap ≠ X.aw := (List.pairwise_cons.mp h.1).1 _ (.head _)
theorem apart2 {nw : List (Addr × Obj)} {x y : Addr × Obj} (h1 : ∀ q ∈ nw, q.1 ≠ x.1) (h2 : ∀ q ∈ nw, q.1 ≠ y.1) : Apart [x, y] nw := fun q hq p hp => by
  rcases List.mem_cons.mp hp with rfl | hp
  · exact (h1 q hq).symm
  · rw [List.mem_singleton.mp hp]; exact (h2 q hq).symm
def lastA (b : Ab) (x l9 : Int) (t9 : Tok) (W f cr : Int) : Nat → Ab
  | 0 => { b with ps := keepN b.ps [x], qs := b.ps, la := .int l9 t9 }
  | _ + 1 => { b with al := keepN b.ps [x], ps := keepN b.ps [x], qs := keepN b.ps [x], ends := b.ends ++ [x], W := W, f := f, cr := cr, la := .int l9 t9 }
section
variable {prog : Program} {w : World} {A : Around} {s : Shared} {h₀ : Heap} {L : Addr} {news : List (Addr × Obj)} {E : Value → Shared → Prop} {Q : Value → Shared → Prop}
theorem notin_ints {l : Addr} {its : Array Value} {k : Nat} {n : Int} {t : Tok} {ns : List Int} {b : Bool} (N : News h₀ L s.heap news) (hm : (l, PySem.W.listOf its k) ∈ news) (hi : IntsAre its.toList ns) (hb : (!decide (n ∈ ns)) = b) (h : Q (.bool b) s) :
    wpAny (model prog w) A (compareOp .NotIn (.int n t) (.ref l)) Q E s := kf_notin N hm (ints_any (k := n) hi).1 (by rw [(ints_any hi).2]; exact hb) h
end
theorem keepN_one {ps : List Pk} {x : Int} : (ps.filter fun p => decide (p.n ≠ x)) = keepN ps [x] := by
  unfold keepN
  refine List.filter_congr fun p _ => ?_
  simp
set_option hygiene false
local macro_rules | `(tactic| walk_at "call ref") => `(tactic| (k_here; (with_reducible show wpAny _ _ (call (Value.ref 351) _) _ _ _); refine Stop.out ?_))
local macro_rules | `(tactic| walk_at "call ref") => `(tactic| (k_here; (with_reducible show wpAny _ _ (call (Value.ref 363) _) _ _ _); refine Stop.out ?_))
local macro_rules | `(tactic| walk_at "call ref") => `(tactic| (k_here; (with_reducible show wpAny _ _ (call (Value.ref 370) _) _ _ _); refine Stop.out ?_))
local macro_rules | `(tactic| walk_at "call ref") => `(tactic| (k_here; (with_reducible show wpAny _ _ (call (Value.ref 375) _) _ _ _); refine Stop.out ?_))
local macro_rules | `(tactic| walk_at "call ref") => `(tactic| (k_here; (with_reducible show wpAny _ _ (call (Value.ref 276) _) _ _ _); refine Stop.out ?_))
set_option hygiene true
set_option hygiene false
set_option hygiene true
set_option hygiene false
set_option hygiene true
set_option hygiene false
set_option hygiene true

set_option hygiene false
set_option hygiene true
local macro_rules | `(tactic| k_qdec) => `(tactic| decide +kernel)
theorem law_start : PySem.Challenge.rw_pb0526_01.Holds := hd (by
  k_go0
  all_goals try k_fold
  refine gen_Q fun Q9 hQ9 => ?_
  (repeat' (first | (k_unfold; (try dsimp only)) | (k_end; wrow_close) | (with_reducible first | (k_here; (show wpAny _ _ (call (Value.ref 148) _) _ _ _); k_dflt (refine' call_cls ?q1 ?q2 ?q3 ?q4 ?q5 ?q6 ?_; (case q1 => k_asm); (case q2 => k_asm); (case q3 => k_asm); (case q4 | q5 | q6 => k_is); k_whole); intro x' d' h' F' N' l1 l2; (try k_lt2 l2); (try k_sweep); k_dflt (refine' SpecI.useG (spec_ctl_init _ _ _ _ ?sne) ?zB ?zF ?zX ?zN ?zP ?zA ?zT ?zk ?zd ?zu ?_); top_raise; (case zP => ktr_rel); (case sne => k_ne); (case zA => ktr_unf); top_raise0; intro v' p' h' tk' F' N' A' P'; k_dflt (intro G9 kG9; cases P'; refine kG9 ?_; clear kG9; refine ⟨rfl, ?_⟩); clear A'; top_strB) | (k_here; (show wpAny _ _ (call (Value.ref 333) _) _ _ _); k_dflt (refine' call_cls ?q1 ?q2 ?q3 ?q4 ?q5 ?q6 ?_; (case q1 => k_asm); (case q2 => k_asm); (case q3 => k_asm); (case q4 | q5 | q6 => k_is); k_whole); intro x' d' h' F' N' l1 l2; (try k_lt2 l2); (try k_sweep); k_dflt (refine' SpecI.useG (spec_space_init _ _ _ _ _ ?sne) ?zB ?zF ?zX ?zN ?zP ?zA ?zT ?zk ?zd ?zu ?_); top_raise; (case zP => ktr_rel); (case sne => k_ne); (case zA => ktr_unf); top_raise0; intro v' p' h' tk' F' N' A' P'; k_dflt (intro G9 kG9; cases P'; refine kG9 ?_; clear kG9; refine ⟨rfl, ?_⟩); k_dflt (have hA3 := apart_mem A' (List.Mem.tail _ (List.Mem.tail _ (List.Mem.head _)))); clear A'; top_strB) | (k_here; (show wpAny _ _ (call (Value.ref 110) _) _ _ _); k_dflt (refine' Spec.useG (spec_discarded _ _ _ _ _ _ _ _ _ _ _ _ _ ?ch) ?zB ?zF ?zX ?zN ?zP ?zA ?zR ?zT ?zk ?zd ?zu ?_); top_raise; (case zP => ktr_rel); (case ch => k_ne); top_raiseB; top_args; k_dflt (obtain ⟨t1', e1', e2'⟩ := P'; top_argsB)) | (k_here; (show wpAny _ _ (call (Value.ref 103) _) _ _ _); k_dflt (refine' Spec.useG (spec_ctl_sent _ _ _ _ _ _ _ _ _ _ _ _ _ ?ch) ?zB ?zF ?zX ?zN ?zP ?zA ?zR ?zT ?zk ?zd ?zu ?_); top_raise; (case zP => ktr_rel); (case ch => k_ne); top_raiseB; top_args; k_dflt (obtain ⟨t1', e1', e2'⟩ := P'; top_argsB)) | (k_here; (show wpAny _ _ (call (Value.ref 264) _) _ _ _); k_dflt (refine' Spec.useG (spec_take_number _ _ _ _ _ _ _ _ _ _ _ _ _ _ _ _ _ _ _ _ _ ?th) ?zB ?zF ?zX ?zN ?zP ?zA ?zR ?zT ?zk ?zd ?zu ?_); top_raise; (case zP => ktr_rel); (case th => k_ne); top_raiseB; top_args; k_dflt (obtain ⟨t1', t2', e1', e2'⟩ := P'; top_argsB)) | (k_here; (show wpAny _ _ (call (Value.ref 330) _) _ _ _); k_dflt (refine' Spec.useG (spec_forget _ _ _ _ _ _ _ _ _ _ _ _ _ _ _ _ _ _ _ _ _ _ ?fD ?flo ?fs ?f1 ?f2 ?f5) ?zB ?zF ?zX ?zN ?zP ?zA ?zR ?zT ?zk ?zd ?zu ?_); top_raise; (case zP => ktr_rel); (case fD | flo => assumption); (case fs => omega); (case f1 | f2 | f5 => k_ne); (case zA => ktr_unf); (case zR => k_dflt (intro g1 _ hr9; exact fun p hp => PkIn.at (hP7 p hp) fun x hx => hr9 x (by (repeat (first | exact hx | refine List.Mem.tail _ ?_))))); top_raise0; top_args; k_dflt (obtain ⟨tt', e1', e2'⟩ := P'; top_argsB)) | (k_here; (show wpAny _ _ (call (Value.ref 117) _) _ _ _); k_dflt (refine' Spec.useG (spec_acked _ _ _ _ _ _ _ _ _ _ _ _ _ _ _ _ _ _ _ _ ?kth ?krc ?kne ?kW ?kW2 ?kz ?kz2 ?kc ?kc2) ?zB ?zF ?zX ?zN ?zP ?zA ?zR ?zT ?zk ?zd ?zu ?_); top_raise; (case zP => ktr_rel); (case kth | krc => assumption); (case kne => k_ne); (case kW | kW2 | kz | kz2 | kc | kc2 => omega); top_raiseB; top_args; k_dflt (obtain ⟨Wd', cr', ta', tb', tc'', e1', hW1', hW2', hc1', hc2', e2'⟩ := P'; top_argsB)) | (k_here; (show wpAny _ _ (call (Value.ref 304) _) _ _ _); k_dflt (refine' Spec.useG (spec_note_largest _ _ _ _ _ _ _ _ _ _ _ _ _ _ _ _ _ _ _ _ _ _ ?nla ?nlh) ?zB ?zF ?zX ?zN ?zP ?zA ?zR ?zT ?zk ?zd ?zu ?_); top_raise; (case zP => ktr_rel); (case nla => assumption); (case nlh => k_ne); top_raiseB; top_args; k_dflt (obtain ⟨l9, t9, e1', hl9a, hl9b, e2'⟩ := P'; top_argsB)) | (k_here; (show wpAny _ _ (call (Value.ref 271) _) _ _ _); k_dflt (refine' Spec.use (spec_sp_sent _ _ _ _ _ _ _ _ _ _ _ _ _ _ _ _ _ _ _ _ _ _ _ _ _ _ _ _ _ _ _ _ ?sd ?ss ?s1 ?s2 ?s3 ?s4 ?s5 ?s6 ?s7 ?s8 ?s9 ?s10) ?zB ?zF ?zX ?zN ?zP ?zA ?zR ?zT ?zk ?zd ?zu (sent_ret ?_)); top_raise; (case zP => ktr_rel); (case sd => assumption); (case ss => ((try simp only [List.length_map]); omega)); (case s1 | s2 | s3 | s4 | s5 | s6 | s7 | s8 | s9 | s10 => k_ne); top_raiseB; intro pa' pd' k0' k1' k2' k3' k4' k5' od' h' tk' hd' hl' hm' hA1 hA2 F' N'; top_strB) | (k_here; (show wpAny _ _ (call (Value.ref 344) _) _ _ _); k_dflt (refine' Spec.useG (spec_draw _ _ _ _ _ _ _ _ _ _ _ _ ?dhi ?dhl ?dp0 ?dp1 ?dp2 ?dp3 ?dm0 ?dm1) ?zB ?zF ?zX ?zN ?zP ?zA ?zR ?zT ?zk ?zd ?zu ?_); top_raise; (case zP => ktr_rel); (case dhi => exact hI8); (case dhl => assumption); (case dp0 | dp1 | dp2 | dp3 | dm0 | dm1 => omega); (case zA => ktr_unf); (case zR => k_dflt (intro g1 st1 hr9; exact ⟨_, hr9 (X.asc, PySem.W.listOf ys.toArray ys.length) (by k_mem), rfl, _, rfl⟩)); top_raise0; top_args; k_dflt (obtain ⟨r', tr', p0', t0', t2', e1', hr0', hr1', hp0', hp1', e2'⟩ := P'; top_argsB)) | (k_here; (show wpAny _ _ (call (Value.builtin "list.append") [Value.ref _, _]) _ _ _); k_dflt (refine' append_K ?k1 ?k2 ?k3 ?_ ?z; (case k1 => k_asm); (case k2 => k_asm); (case k3 => k_upd); (case z => (rw [sizeLine_eq]; omega)); k_whole); intro h' F' N') | (k_here; (show wpAny _ _ (call (Value.builtin "dict.pop") [Value.ref _, Value.int _ _]) _ _ _); k_dflt (refine' kob_pop (knd := PySem.intKind _ _) (more := []) ?F ?N ?U ?d (intKind_is _ _ _ _) (.inl rfl) (by rfl) (PySem.F.args_dict_pop_2 _ _) ?l ?z ?_; (case F => k_asm); (case N => k_asm); (case U => k_updF); (case d => assumption); (case l => assumption); (case z => (rw [sizeLine_eq]; assumption))); intro h' o' F' N' hd'; (try dsimp only at N')) | (k_here; (show wpAny _ _ (compareOp CmpOp.NotIn (Value.int _ _) (Value.ref _)) _ _ _); k_dflt (refine' notin_ints ?iiN ?iim ?iii ?iib ?_; (case iiN => k_asm); (case iim => k_mem); (case iii => assumption); (case iib => assumption))) | (k_here; (show wpAny _ _ (setItem (Value.ref _) (Value.str _ _) _) _ _ _); k_dflt (refine' kda_set (knd := PySem.strKind _ _) ?F ?N ?U ?d (strKind_is _ _ _ _) ?z ?_; (case F => k_asm); (case N => k_asm); (case U => k_updF); (case d => assumption); (case z => (rw [sizeLine_eq]; exact Nat.le_of_ble_eq_true rfl))); intro h' o' F' N' hd'; (try dsimp only at N')) | (k_here; (show wpAny _ _ (subscriptTail _ _ (Value.ref _) (Value.str _ _)) _ _ _); k_dflt (refine' kda_item (knd := PySem.strKind _ _) ?N ?p ?d (strKind_is _ _ _ _) ?l ?_; (case N => k_asm); (case p => k_mem); (case d => assumption); (case l => exact rfl))) | (k_here; (show wpAny _ _ (eval (Expr.Dict [] [] _) _) _ _ _); k_dflt (refine' newDict_K ?ndF ?ndN ?ndB ?_; (case ndF => k_asm); (case ndN => k_asm); (case ndB => exact Top.nolimit (by k_asm))); intro d' h' o' F' N' l1 lo' hs' fs' hi' fi'; (try k_lt l1)) | (k_here; (show wpAny _ _ (callWith _ (Value.ref _) _ _ _) _ _ _); k_dflt (refine' callWith_K0 ?cw1 ?cw2 ?_; (case cw1 => (refine' Frag.In.keeps ?ci1 ?ci2; (case ci1 => k_asm); (case ci2 => (refine' Fr.keep ?ci3; (case ci3 => k_asm))))); (case cw2 => k_is); k_whole))) | walk1 | dsimp only | (leave1; try dsimp only) | fail "no step"))
  all_goals (try dsimp only)
  rename IntsAre _ (List.map _ _) => hI8
  rename Obj.IsDictOf (PySem.strKind _ _) _ (_ :: _) => hWd
  have key9 := law_lay (by k_asm) (by k_mem) (by k_mem) (by k_mem) (by k_mem) (by k_mem) (by k_mem) (by k_mem) (by k_mem) (by k_mem) ⟨fmod_lo _ (by decide), fmod_hi _ (by decide)⟩ hWd (by assumption) (by assumption) ⟨by k_ne, by k_ne, by k_ne, by k_ne, by k_ne, by k_ne, by k_ne, by k_ne, by k_ne⟩
    (by simp only [List.pairwise_cons, List.forall_mem_cons, List.not_mem_nil, List.Pairwise.nil, false_implies, implies_true, and_true]; refine ⟨⟨?_, ?_, ?_, ?_, ?_, ?_, ?_, ?_⟩, ⟨?_, ?_, ?_, ?_, ?_, ?_, ?_⟩, ⟨?_, ?_, ?_, ?_, ?_, ?_⟩, ⟨?_, ?_, ?_, ?_, ?_⟩, ⟨?_, ?_, ?_, ?_⟩, ⟨?_, ?_, ?_⟩, ⟨?_, ?_⟩, ?_⟩ <;> k_ne) (by assumption) (by assumption) (by assumption)
  rename Fr _ _ _ _ => F9
  rename News _ _ _ _ => N9
  refine law_cps key9 N9 (oA := PySem.W.listOf ys.toArray ys.length) (by k_mem) ?_
  clear key9 N9 hWd
  repeat (with_reducible rename (∀ p : Addr × Obj, p ∈ _ → p.1 < _) => hzz; clear hzz)
  repeat (with_reducible rename Obj.IsDictOf _ _ _ => hzz; clear hzz)
  repeat (with_reducible rename PyProof.V.FlatPairs _ _ _ => hzz; clear hzz)
  intro X a nw e1 e2 e3 h9 hL hO hN hdr hasc N1
  refine gen_P fun G9 kG9 => ?_
  subst e1
  subst e2
  subst e3
  refine kG9 ?_
  clear kG9
  refine' Spec.use (spec_law_sends _ X a nw _ _ hI8 ?hlen h9 hL hO ?hdr ?hN) ?zB ?zF ?zX N1 (.letter (.tail .head)) ?zA ?zR ?zT ?zk ?zd ?zu ?_
  case hlen => rw [List.length_map, List.length_take]; omega
  case hdr => rw [hdr]; decide
  case hN => omega
  case zB => k_asm
  case zF => k_asm
  case zX => k_asm
  case zT => k_asm
  case zk => first | exact rfl | assumption
  case zd => ktr_room
  case zu => ktr_units
  case zR => exact fun g st hr => ⟨_, hr _ (.head _), rfl, _, rfl⟩
  case zA => exact fun q hq p hp => by rw [List.mem_singleton.mp hp]; exact (hasc q hq).symm
  clear hasc N1 hL
  repeat (rename (_ < _ ∧ _) => hzz; clear hzz)
  repeat (rename (_ ≠ _ ∧ _) => hzz; clear hzz)
  intro v' nw1 h' tk' F' N' A' P'
  refine gen_P fun G9 kG9 => ?_
  obtain ⟨a1, e1, hL1, hO1, hN1, hdr1, hnow1⟩ := P'
  subst e1
  refine kG9 ?_
  clear kG9
  have hasc1 : ∀ p ∈ nw1, p.1 ≠ X.asc := fun p hp => (A' p hp _ (.head _)).symm
  have N2 := News.sub (l' := (X.asc, PySem.W.listOf ys.toArray ys.length) :: nw1) N' (sub_cons (List.mem_append_right _ (.head _)) fun p hp => List.mem_append_left _ hp)
  clear N' A'
  rename ys.length = _ => hL8
  have hys24 : ys.length ≤ 24 := by rw [hL8, List.length_map, List.length_take]; omega
  dsimp only
  (repeat' (first | (k_unfold; (try dsimp only)) | (k_end; wrow_close) | (with_reducible first | (k_here; (show wpAny _ _ (call (Value.ref 148) _) _ _ _); k_dflt (refine' call_cls ?q1 ?q2 ?q3 ?q4 ?q5 ?q6 ?_; (case q1 => k_asm); (case q2 => k_asm); (case q3 => k_asm); (case q4 | q5 | q6 => k_is); k_whole); intro x' d' h' F' N' l1 l2; (try k_lt2 l2); (try k_sweep); k_dflt (refine' SpecI.useG (spec_ctl_init _ _ _ _ ?sne) ?zB ?zF ?zX ?zN ?zP ?zA ?zT ?zk ?zd ?zu ?_); top_raise; (case zP => ktr_rel); (case sne => k_ne); (case zA => ktr_unf); top_raise0; intro v' p' h' tk' F' N' A' P'; k_dflt (intro G9 kG9; cases P'; refine kG9 ?_; clear kG9; refine ⟨rfl, ?_⟩); clear A'; top_strB) | (k_here; (show wpAny _ _ (call (Value.ref 333) _) _ _ _); k_dflt (refine' call_cls ?q1 ?q2 ?q3 ?q4 ?q5 ?q6 ?_; (case q1 => k_asm); (case q2 => k_asm); (case q3 => k_asm); (case q4 | q5 | q6 => k_is); k_whole); intro x' d' h' F' N' l1 l2; (try k_lt2 l2); (try k_sweep); k_dflt (refine' SpecI.useG (spec_space_init _ _ _ _ _ ?sne) ?zB ?zF ?zX ?zN ?zP ?zA ?zT ?zk ?zd ?zu ?_); top_raise; (case zP => ktr_rel); (case sne => k_ne); (case zA => ktr_unf); top_raise0; intro v' p' h' tk' F' N' A' P'; k_dflt (intro G9 kG9; cases P'; refine kG9 ?_; clear kG9; refine ⟨rfl, ?_⟩); k_dflt (have hA3 := apart_mem A' (List.Mem.tail _ (List.Mem.tail _ (List.Mem.head _)))); clear A'; top_strB) | (k_here; (show wpAny _ _ (call (Value.ref 110) _) _ _ _); k_dflt (refine' Spec.useG (spec_discarded _ _ _ _ _ _ _ _ _ _ _ _ _ ?ch) ?zB ?zF ?zX ?zN ?zP ?zA ?zR ?zT ?zk ?zd ?zu ?_); top_raise; (case zP => ktr_rel); (case ch => k_ne); top_raiseB; top_args; k_dflt (obtain ⟨t1', e1', e2'⟩ := P'; top_argsB)) | (k_here; (show wpAny _ _ (call (Value.ref 103) _) _ _ _); k_dflt (refine' Spec.useG (spec_ctl_sent _ _ _ _ _ _ _ _ _ _ _ _ _ ?ch) ?zB ?zF ?zX ?zN ?zP ?zA ?zR ?zT ?zk ?zd ?zu ?_); top_raise; (case zP => ktr_rel); (case ch => k_ne); top_raiseB; top_args; k_dflt (obtain ⟨t1', e1', e2'⟩ := P'; top_argsB)) | (k_here; (show wpAny _ _ (call (Value.ref 264) _) _ _ _); k_dflt (refine' Spec.useG (spec_take_number _ _ _ _ _ _ _ _ _ _ _ _ _ _ _ _ _ _ _ _ _ ?th) ?zB ?zF ?zX ?zN ?zP ?zA ?zR ?zT ?zk ?zd ?zu ?_); top_raise; (case zP => ktr_rel); (case th => k_ne); top_raiseB; top_args; k_dflt (obtain ⟨t1', t2', e1', e2'⟩ := P'; top_argsB)) | (k_here; (show wpAny _ _ (call (Value.ref 330) _) _ _ _); k_dflt (refine' Spec.useG (spec_forget _ _ _ _ _ _ _ _ _ _ _ _ _ _ _ _ _ _ _ _ _ _ ?fD ?flo ?fs ?f1 ?f2 ?f5) ?zB ?zF ?zX ?zN ?zP ?zA ?zR ?zT ?zk ?zd ?zu ?_); top_raise; (case zP => ktr_rel); (case fD | flo => assumption); (case fs => omega); (case f1 | f2 | f5 => k_ne); (case zA => ktr_unf); (case zR => k_dflt (intro g1 _ hr9; exact fun p hp => PkIn.at (hP7 p hp) fun x hx => hr9 x (by (repeat (first | exact hx | refine List.Mem.tail _ ?_))))); top_raise0; top_args; k_dflt (obtain ⟨tt', e1', e2'⟩ := P'; top_argsB)) | (k_here; (show wpAny _ _ (call (Value.ref 117) _) _ _ _); k_dflt (refine' Spec.useG (spec_acked _ _ _ _ _ _ _ _ _ _ _ _ _ _ _ _ _ _ _ _ ?kth ?krc ?kne ?kW ?kW2 ?kz ?kz2 ?kc ?kc2) ?zB ?zF ?zX ?zN ?zP ?zA ?zR ?zT ?zk ?zd ?zu ?_); top_raise; (case zP => ktr_rel); (case kth | krc => assumption); (case kne => k_ne); (case kW | kW2 | kz | kz2 | kc | kc2 => omega); top_raiseB; top_args; k_dflt (obtain ⟨Wd', cr', ta', tb', tc'', e1', hW1', hW2', hc1', hc2', e2'⟩ := P'; top_argsB)) | (k_here; (show wpAny _ _ (call (Value.ref 304) _) _ _ _); k_dflt (refine' Spec.useG (spec_note_largest _ _ _ _ _ _ _ _ _ _ _ _ _ _ _ _ _ _ _ _ _ _ ?nla ?nlh) ?zB ?zF ?zX ?zN ?zP ?zA ?zR ?zT ?zk ?zd ?zu ?_); top_raise; (case zP => ktr_rel); (case nla => assumption); (case nlh => k_ne); top_raiseB; top_args; k_dflt (obtain ⟨l9, t9, e1', hl9a, hl9b, e2'⟩ := P'; top_argsB)) | (k_here; (show wpAny _ _ (call (Value.ref 271) _) _ _ _); k_dflt (refine' Spec.use (spec_sp_sent _ _ _ _ _ _ _ _ _ _ _ _ _ _ _ _ _ _ _ _ _ _ _ _ _ _ _ _ _ _ _ _ ?sd ?ss ?s1 ?s2 ?s3 ?s4 ?s5 ?s6 ?s7 ?s8 ?s9 ?s10) ?zB ?zF ?zX ?zN ?zP ?zA ?zR ?zT ?zk ?zd ?zu (sent_ret ?_)); top_raise; (case zP => ktr_rel); (case sd => assumption); (case ss => ((try simp only [List.length_map]); omega)); (case s1 | s2 | s3 | s4 | s5 | s6 | s7 | s8 | s9 | s10 => k_ne); top_raiseB; intro pa' pd' k0' k1' k2' k3' k4' k5' od' h' tk' hd' hl' hm' hA1 hA2 F' N'; top_strB) | (k_here; (show wpAny _ _ (call (Value.ref 344) _) _ _ _); k_dflt (refine' Spec.useG (spec_draw _ _ _ _ _ _ _ _ _ _ _ _ ?dhi ?dhl ?dp0 ?dp1 ?dp2 ?dp3 ?dm0 ?dm1) ?zB ?zF ?zX ?zN ?zP ?zA ?zR ?zT ?zk ?zd ?zu ?_); top_raise; (case zP => ktr_rel); (case dhi => exact hI8); (case dhl => assumption); (case dp0 | dp1 | dp2 | dp3 | dm0 | dm1 => omega); (case zA => ktr_unf); (case zR => k_dflt (intro g1 st1 hr9; exact ⟨_, hr9 (X.asc, PySem.W.listOf ys.toArray ys.length) (by k_mem), rfl, _, rfl⟩)); top_raise0; top_args; k_dflt (obtain ⟨r', tr', p0', t0', t2', e1', hr0', hr1', hp0', hp1', e2'⟩ := P'; top_argsB)) | (k_here; (show wpAny _ _ (call (Value.builtin "list.append") [Value.ref _, _]) _ _ _); k_dflt (refine' append_K ?k1 ?k2 ?k3 ?_ ?z; (case k1 => k_asm); (case k2 => k_asm); (case k3 => k_upd); (case z => (rw [sizeLine_eq]; omega)); k_whole); intro h' F' N') | (k_here; (show wpAny _ _ (call (Value.builtin "dict.pop") [Value.ref _, Value.int _ _]) _ _ _); k_dflt (refine' kob_pop (knd := PySem.intKind _ _) (more := []) ?F ?N ?U ?d (intKind_is _ _ _ _) (.inl rfl) (by rfl) (PySem.F.args_dict_pop_2 _ _) ?l ?z ?_; (case F => k_asm); (case N => k_asm); (case U => k_updF); (case d => assumption); (case l => assumption); (case z => (rw [sizeLine_eq]; assumption))); intro h' o' F' N' hd'; (try dsimp only at N')) | (k_here; (show wpAny _ _ (compareOp CmpOp.NotIn (Value.int _ _) (Value.ref _)) _ _ _); k_dflt (refine' notin_ints ?iiN ?iim ?iii ?iib ?_; (case iiN => k_asm); (case iim => k_mem); (case iii => assumption); (case iib => assumption))) | (k_here; (show wpAny _ _ (setItem (Value.ref _) (Value.str _ _) _) _ _ _); k_dflt (refine' kda_set (knd := PySem.strKind _ _) ?F ?N ?U ?d (strKind_is _ _ _ _) ?z ?_; (case F => k_asm); (case N => k_asm); (case U => k_updF); (case d => assumption); (case z => (rw [sizeLine_eq]; exact Nat.le_of_ble_eq_true rfl))); intro h' o' F' N' hd'; (try dsimp only at N')) | (k_here; (show wpAny _ _ (subscriptTail _ _ (Value.ref _) (Value.str _ _)) _ _ _); k_dflt (refine' kda_item (knd := PySem.strKind _ _) ?N ?p ?d (strKind_is _ _ _ _) ?l ?_; (case N => k_asm); (case p => k_mem); (case d => assumption); (case l => exact rfl))) | (k_here; (show wpAny _ _ (eval (Expr.Dict [] [] _) _) _ _ _); k_dflt (refine' newDict_K ?ndF ?ndN ?ndB ?_; (case ndF => k_asm); (case ndN => k_asm); (case ndB => exact Top.nolimit (by k_asm))); intro d' h' o' F' N' l1 lo' hs' fs' hi' fi'; (try k_lt l1)) | (k_here; (show wpAny _ _ (callWith _ (Value.ref _) _ _ _) _ _ _); k_dflt (refine' callWith_K0 ?cw1 ?cw2 ?_; (case cw1 => (refine' Frag.In.keeps ?ci1 ?ci2; (case ci1 => k_asm); (case ci2 => (refine' Fr.keep ?ci3; (case ci3 => k_asm))))); (case cw2 => k_is); k_whole))) | walk1 | dsimp only | (leave1; try dsimp only) | fail "no step"))
  all_goals (try dsimp only)
  rename IsRange _ _ _ _ _ _ _ _ => hra
  rename World => ww
  rename List Int => ss
  have hfd := fd12 (k := (List.map (fun k' => k') (List.take 24 ss)).length) (by rw [List.length_map, List.length_take]; omega)
  have hlen24 : (List.map (fun k' => k') (List.take 24 ss)).length ≤ 24 := by rw [List.length_map, List.length_take]; omega
  refine for_range' rfl (by k_asm) (by k_asm) hra (small_one (by decide) (by decide) (by omega) (by omega)) (rangeSize_nat _ _) [Str.ofString "turn", Str.ofString "form", Str.ofString "is_right"] (by decide)
    (fun i m₁ nw0 => ∃ a nw, nw0 = (X.asc, PySem.W.listOf ys.toArray ys.length) :: nw ∧ Lay ww X a nw ∧ Ok a ∧ a.N ≤ 3 * (i + 1) ∧ a.dr ≤ 4 + 8 * (i : Int) ∧ ∀ p ∈ nw, p.1 ≠ X.asc) ⟨a1, nw1, rfl, hL1, hO1, by omega, by omega, hasc1⟩ ?step ?done
  case step =>
    intro i t m₁ nw0 I oI h tk hin hJ hnI F N
    refine gen_P fun G9 kG9 => ?_
    obtain ⟨a, nw, rfl, hL, hO, hN, hdr, hasc⟩ := hJ
    dsimp only [envOf] at F N
    have hi18 : i < 18 := by omega
    obtain ⟨p0, t0, t2, tn, ow, Rw, ⟨hp0, hp1⟩, hW, hsub, ra, rb, hclose⟩ := lay_open h9 hL
    refine kG9 ?_
    clear kG9
    have hdr0 := hO.dr
    have nI : X.asc ≠ I := hnI _ (.head _)
    have nIa : X.ap ≠ I := hnI _ (.tail _ (hsub _ (.head _)))
    have nIw : X.aw ≠ I := hnI _ (.tail _ (hsub _ (.tail _ (.head _))))
    have nAa : X.ap ≠ X.asc := hasc _ (hsub _ (.head _))
    have nAw : X.aw ≠ X.asc := hasc _ (hsub _ (.tail _ (.head _)))
    have nAp : X.ap ≠ X.aw := nine_ab h9
    have rI : ∀ p ∈ Rw, p.1 ≠ I := fun p hp => hnI _ (.tail _ (hsub _ (.tail _ (.tail _ hp))))
    have rA : ∀ p ∈ Rw, p.1 ≠ X.asc := fun p hp => hasc _ (hsub _ (.tail _ (.tail _ hp)))
    have N1 := News.sub (l' := (I, oI) :: (X.asc, PySem.W.listOf ys.toArray ys.length) :: (X.ap, PySem.W.listOf #[.int p0 t0, .ref X.asc, .int a.dr t2] X.c) :: (X.aw, ow) :: Rw) N (sub_cons (.head _) (sub_cons (.tail _ (.head _)) fun p hp => .tail _ (.tail _ (hsub p hp))))
    clear N hnI hsub hasc
    (repeat' (first | (k_unfold; (try dsimp only)) | (k_end; wrow_close) | (with_reducible first | (k_here; (show wpAny _ _ (call (Value.ref 148) _) _ _ _); k_dflt (refine' call_cls ?q1 ?q2 ?q3 ?q4 ?q5 ?q6 ?_; (case q1 => k_asm); (case q2 => k_asm); (case q3 => k_asm); (case q4 | q5 | q6 => k_is); k_whole); intro x' d' h' F' N' l1 l2; (try k_lt2 l2); (try k_sweep); k_dflt (refine' SpecI.useG (spec_ctl_init _ _ _ _ ?sne) ?zB ?zF ?zX ?zN ?zP ?zA ?zT ?zk ?zd ?zu ?_); top_raise; (case zP => ktr_rel); (case sne => k_ne); (case zA => ktr_unf); top_raise0; intro v' p' h' tk' F' N' A' P'; k_dflt (intro G9 kG9; cases P'; refine kG9 ?_; clear kG9; refine ⟨rfl, ?_⟩); clear A'; top_strB) | (k_here; (show wpAny _ _ (call (Value.ref 333) _) _ _ _); k_dflt (refine' call_cls ?q1 ?q2 ?q3 ?q4 ?q5 ?q6 ?_; (case q1 => k_asm); (case q2 => k_asm); (case q3 => k_asm); (case q4 | q5 | q6 => k_is); k_whole); intro x' d' h' F' N' l1 l2; (try k_lt2 l2); (try k_sweep); k_dflt (refine' SpecI.useG (spec_space_init _ _ _ _ _ ?sne) ?zB ?zF ?zX ?zN ?zP ?zA ?zT ?zk ?zd ?zu ?_); top_raise; (case zP => ktr_rel); (case sne => k_ne); (case zA => ktr_unf); top_raise0; intro v' p' h' tk' F' N' A' P'; k_dflt (intro G9 kG9; cases P'; refine kG9 ?_; clear kG9; refine ⟨rfl, ?_⟩); k_dflt (have hA3 := apart_mem A' (List.Mem.tail _ (List.Mem.tail _ (List.Mem.head _)))); clear A'; top_strB) | (k_here; (show wpAny _ _ (call (Value.ref 110) _) _ _ _); k_dflt (refine' Spec.useG (spec_discarded _ _ _ _ _ _ _ _ _ _ _ _ _ ?ch) ?zB ?zF ?zX ?zN ?zP ?zA ?zR ?zT ?zk ?zd ?zu ?_); top_raise; (case zP => ktr_rel); (case ch => k_ne); top_raiseB; top_args; k_dflt (obtain ⟨t1', e1', e2'⟩ := P'; top_argsB)) | (k_here; (show wpAny _ _ (call (Value.ref 103) _) _ _ _); k_dflt (refine' Spec.useG (spec_ctl_sent _ _ _ _ _ _ _ _ _ _ _ _ _ ?ch) ?zB ?zF ?zX ?zN ?zP ?zA ?zR ?zT ?zk ?zd ?zu ?_); top_raise; (case zP => ktr_rel); (case ch => k_ne); top_raiseB; top_args; k_dflt (obtain ⟨t1', e1', e2'⟩ := P'; top_argsB)) | (k_here; (show wpAny _ _ (call (Value.ref 264) _) _ _ _); k_dflt (refine' Spec.useG (spec_take_number _ _ _ _ _ _ _ _ _ _ _ _ _ _ _ _ _ _ _ _ _ ?th) ?zB ?zF ?zX ?zN ?zP ?zA ?zR ?zT ?zk ?zd ?zu ?_); top_raise; (case zP => ktr_rel); (case th => k_ne); top_raiseB; top_args; k_dflt (obtain ⟨t1', t2', e1', e2'⟩ := P'; top_argsB)) | (k_here; (show wpAny _ _ (call (Value.ref 330) _) _ _ _); k_dflt (refine' Spec.useG (spec_forget _ _ _ _ _ _ _ _ _ _ _ _ _ _ _ _ _ _ _ _ _ _ ?fD ?flo ?fs ?f1 ?f2 ?f5) ?zB ?zF ?zX ?zN ?zP ?zA ?zR ?zT ?zk ?zd ?zu ?_); top_raise; (case zP => ktr_rel); (case fD | flo => assumption); (case fs => omega); (case f1 | f2 | f5 => k_ne); (case zA => ktr_unf); (case zR => k_dflt (intro g1 _ hr9; exact fun p hp => PkIn.at (hP7 p hp) fun x hx => hr9 x (by (repeat (first | exact hx | refine List.Mem.tail _ ?_))))); top_raise0; top_args; k_dflt (obtain ⟨tt', e1', e2'⟩ := P'; top_argsB)) | (k_here; (show wpAny _ _ (call (Value.ref 117) _) _ _ _); k_dflt (refine' Spec.useG (spec_acked _ _ _ _ _ _ _ _ _ _ _ _ _ _ _ _ _ _ _ _ ?kth ?krc ?kne ?kW ?kW2 ?kz ?kz2 ?kc ?kc2) ?zB ?zF ?zX ?zN ?zP ?zA ?zR ?zT ?zk ?zd ?zu ?_); top_raise; (case zP => ktr_rel); (case kth | krc => assumption); (case kne => k_ne); (case kW | kW2 | kz | kz2 | kc | kc2 => omega); top_raiseB; top_args; k_dflt (obtain ⟨Wd', cr', ta', tb', tc'', e1', hW1', hW2', hc1', hc2', e2'⟩ := P'; top_argsB)) | (k_here; (show wpAny _ _ (call (Value.ref 304) _) _ _ _); k_dflt (refine' Spec.useG (spec_note_largest _ _ _ _ _ _ _ _ _ _ _ _ _ _ _ _ _ _ _ _ _ _ ?nla ?nlh) ?zB ?zF ?zX ?zN ?zP ?zA ?zR ?zT ?zk ?zd ?zu ?_); top_raise; (case zP => ktr_rel); (case nla => assumption); (case nlh => k_ne); top_raiseB; top_args; k_dflt (obtain ⟨l9, t9, e1', hl9a, hl9b, e2'⟩ := P'; top_argsB)) | (k_here; (show wpAny _ _ (call (Value.ref 271) _) _ _ _); k_dflt (refine' Spec.use (spec_sp_sent _ _ _ _ _ _ _ _ _ _ _ _ _ _ _ _ _ _ _ _ _ _ _ _ _ _ _ _ _ _ _ _ ?sd ?ss ?s1 ?s2 ?s3 ?s4 ?s5 ?s6 ?s7 ?s8 ?s9 ?s10) ?zB ?zF ?zX ?zN ?zP ?zA ?zR ?zT ?zk ?zd ?zu (sent_ret ?_)); top_raise; (case zP => ktr_rel); (case sd => assumption); (case ss => ((try simp only [List.length_map]); omega)); (case s1 | s2 | s3 | s4 | s5 | s6 | s7 | s8 | s9 | s10 => k_ne); top_raiseB; intro pa' pd' k0' k1' k2' k3' k4' k5' od' h' tk' hd' hl' hm' hA1 hA2 F' N'; top_strB) | (k_here; (show wpAny _ _ (call (Value.ref 344) _) _ _ _); k_dflt (refine' Spec.useG (spec_draw _ _ _ _ _ _ _ _ _ _ _ _ ?dhi ?dhl ?dp0 ?dp1 ?dp2 ?dp3 ?dm0 ?dm1) ?zB ?zF ?zX ?zN ?zP ?zA ?zR ?zT ?zk ?zd ?zu ?_); top_raise; (case zP => ktr_rel); (case dhi => exact hI8); (case dhl => assumption); (case dp0 | dp1 | dp2 | dp3 | dm0 | dm1 => omega); (case zA => ktr_unf); (case zR => k_dflt (intro g1 st1 hr9; exact ⟨_, hr9 (X.asc, PySem.W.listOf ys.toArray ys.length) (by k_mem), rfl, _, rfl⟩)); top_raise0; top_args; k_dflt (obtain ⟨r', tr', p0', t0', t2', e1', hr0', hr1', hp0', hp1', e2'⟩ := P'; top_argsB)) | (k_here; (show wpAny _ _ (call (Value.builtin "list.append") [Value.ref _, _]) _ _ _); k_dflt (refine' append_K ?k1 ?k2 ?k3 ?_ ?z; (case k1 => k_asm); (case k2 => k_asm); (case k3 => k_upd); (case z => (rw [sizeLine_eq]; omega)); k_whole); intro h' F' N') | (k_here; (show wpAny _ _ (call (Value.builtin "dict.pop") [Value.ref _, Value.int _ _]) _ _ _); k_dflt (refine' kob_pop (knd := PySem.intKind _ _) (more := []) ?F ?N ?U ?d (intKind_is _ _ _ _) (.inl rfl) (by rfl) (PySem.F.args_dict_pop_2 _ _) ?l ?z ?_; (case F => k_asm); (case N => k_asm); (case U => k_updF); (case d => assumption); (case l => assumption); (case z => (rw [sizeLine_eq]; assumption))); intro h' o' F' N' hd'; (try dsimp only at N')) | (k_here; (show wpAny _ _ (compareOp CmpOp.NotIn (Value.int _ _) (Value.ref _)) _ _ _); k_dflt (refine' notin_ints ?iiN ?iim ?iii ?iib ?_; (case iiN => k_asm); (case iim => k_mem); (case iii => assumption); (case iib => assumption))) | (k_here; (show wpAny _ _ (setItem (Value.ref _) (Value.str _ _) _) _ _ _); k_dflt (refine' kda_set (knd := PySem.strKind _ _) ?F ?N ?U ?d (strKind_is _ _ _ _) ?z ?_; (case F => k_asm); (case N => k_asm); (case U => k_updF); (case d => assumption); (case z => (rw [sizeLine_eq]; exact Nat.le_of_ble_eq_true rfl))); intro h' o' F' N' hd'; (try dsimp only at N')) | (k_here; (show wpAny _ _ (subscriptTail _ _ (Value.ref _) (Value.str _ _)) _ _ _); k_dflt (refine' kda_item (knd := PySem.strKind _ _) ?N ?p ?d (strKind_is _ _ _ _) ?l ?_; (case N => k_asm); (case p => k_mem); (case d => assumption); (case l => exact rfl))) | (k_here; (show wpAny _ _ (eval (Expr.Dict [] [] _) _) _ _ _); k_dflt (refine' newDict_K ?ndF ?ndN ?ndB ?_; (case ndF => k_asm); (case ndN => k_asm); (case ndB => exact Top.nolimit (by k_asm))); intro d' h' o' F' N' l1 lo' hs' fs' hi' fi'; (try k_lt l1)) | (k_here; (show wpAny _ _ (callWith _ (Value.ref _) _ _ _) _ _ _); k_dflt (refine' callWith_K0 ?cw1 ?cw2 ?_; (case cw1 => (refine' Frag.In.keeps ?ci1 ?ci2; (case ci1 => k_asm); (case ci2 => (refine' Fr.keep ?ci3; (case ci3 => k_asm))))); (case cw2 => k_is); k_whole))) | walk1 | dsimp only | (leave1; try dsimp only) | fail "no step"))
    all_goals (try dsimp only)
    all_goals (try (rename Obj.IsDictOf _ _ (stored _ _ _) => hW3; rw [stored_now] at hW3))
    · obtain ⟨nw2, hL2, hs2⟩ := hclose p0' t0' t2' _ _ (a.dr + 1 + 1) _ ⟨hp0', hp1'⟩ hW3
      have hO2 := hO.setnow (dr := a.dr + 1 + 1) (now := a.now + ([0, 100, 300] : List Int).getD r'.toNat 0) (by omega)
      have f1 : ∀ q ∈ nw2, q.1 ≠ I := fun q hq => (all_cons.mpr ⟨nIa, all_cons.mpr ⟨nIw, rI⟩⟩) q (hs2 q hq)
      have f2 : ∀ q ∈ nw2, q.1 ≠ X.asc := fun q hq => (all_cons.mpr ⟨nAa, all_cons.mpr ⟨nAw, rA⟩⟩) q (hs2 q hq)
      refine' Spec.use2 (spec_law_sends _ X _ nw2 _ _ hI8 ?hlen h9 hL2 hO2 ?hdr ?hN) [(I, oI), (X.asc, PySem.W.listOf ys.toArray ys.length)] ?zB ?zF ?zX ?zN ?zs ?zr ?zA ?zR ?zT ?zk ?zd ?zu ?_
      case zB => k_asm
      case zF => k_asm
      case zX => k_asm
      case zN => k_asm
      case zT => k_asm
      case zk => first | exact rfl | assumption
      case zd => ktr_room
      case zu => ktr_units
      case zs => exact fun p hp => (sub_cons (by k_mem) (sub_cons (by k_mem) (by tb_rel))) p (hs2 p hp)
      case zr => tb_rel
      case zA => exact apart2 f1 f2
      case zR => exact fun g st hr => ⟨_, hr (X.asc, PySem.W.listOf ys.toArray ys.length) (.tail _ (.head _)), rfl, _, rfl⟩
      case hlen => assumption
      case hdr => (dsimp only; omega)
      case hN => (dsimp only; omega)
      intro v' nw3 h' tk' F' N' A' P'
      refine gen_P fun G9 kG9 => ?_
      obtain ⟨a3, e3, hL3, hO3, hN3, hdr3, -⟩ := P'
      dsimp only at hN3 hdr3
      subst e3
      refine kG9 ?_
      clear kG9
      have g1 : ∀ q ∈ nw3, q.1 ≠ I := fun q hq => (A' q hq _ (.head _)).symm
      have g2 : ∀ q ∈ nw3, q.1 ≠ X.asc := fun q hq => (A' q hq _ (.tail _ (.head _))).symm
      clear A'
      (repeat' (first | (k_unfold; (try dsimp only)) | (k_end; wrow_close) | (with_reducible first | (k_here; (show wpAny _ _ (call (Value.ref 148) _) _ _ _); k_dflt (refine' call_cls ?q1 ?q2 ?q3 ?q4 ?q5 ?q6 ?_; (case q1 => k_asm); (case q2 => k_asm); (case q3 => k_asm); (case q4 | q5 | q6 => k_is); k_whole); intro x' d' h' F' N' l1 l2; (try k_lt2 l2); (try k_sweep); k_dflt (refine' SpecI.useG (spec_ctl_init _ _ _ _ ?sne) ?zB ?zF ?zX ?zN ?zP ?zA ?zT ?zk ?zd ?zu ?_); top_raise; (case zP => ktr_rel); (case sne => k_ne); (case zA => ktr_unf); top_raise0; intro v' p' h' tk' F' N' A' P'; k_dflt (intro G9 kG9; cases P'; refine kG9 ?_; clear kG9; refine ⟨rfl, ?_⟩); clear A'; top_strB) | (k_here; (show wpAny _ _ (call (Value.ref 333) _) _ _ _); k_dflt (refine' call_cls ?q1 ?q2 ?q3 ?q4 ?q5 ?q6 ?_; (case q1 => k_asm); (case q2 => k_asm); (case q3 => k_asm); (case q4 | q5 | q6 => k_is); k_whole); intro x' d' h' F' N' l1 l2; (try k_lt2 l2); (try k_sweep); k_dflt (refine' SpecI.useG (spec_space_init _ _ _ _ _ ?sne) ?zB ?zF ?zX ?zN ?zP ?zA ?zT ?zk ?zd ?zu ?_); top_raise; (case zP => ktr_rel); (case sne => k_ne); (case zA => ktr_unf); top_raise0; intro v' p' h' tk' F' N' A' P'; k_dflt (intro G9 kG9; cases P'; refine kG9 ?_; clear kG9; refine ⟨rfl, ?_⟩); k_dflt (have hA3 := apart_mem A' (List.Mem.tail _ (List.Mem.tail _ (List.Mem.head _)))); clear A'; top_strB) | (k_here; (show wpAny _ _ (call (Value.ref 110) _) _ _ _); k_dflt (refine' Spec.useG (spec_discarded _ _ _ _ _ _ _ _ _ _ _ _ _ ?ch) ?zB ?zF ?zX ?zN ?zP ?zA ?zR ?zT ?zk ?zd ?zu ?_); top_raise; (case zP => ktr_rel); (case ch => k_ne); top_raiseB; top_args; k_dflt (obtain ⟨t1', e1', e2'⟩ := P'; top_argsB)) | (k_here; (show wpAny _ _ (call (Value.ref 103) _) _ _ _); k_dflt (refine' Spec.useG (spec_ctl_sent _ _ _ _ _ _ _ _ _ _ _ _ _ ?ch) ?zB ?zF ?zX ?zN ?zP ?zA ?zR ?zT ?zk ?zd ?zu ?_); top_raise; (case zP => ktr_rel); (case ch => k_ne); top_raiseB; top_args; k_dflt (obtain ⟨t1', e1', e2'⟩ := P'; top_argsB)) | (k_here; (show wpAny _ _ (call (Value.ref 264) _) _ _ _); k_dflt (refine' Spec.useG (spec_take_number _ _ _ _ _ _ _ _ _ _ _ _ _ _ _ _ _ _ _ _ _ ?th) ?zB ?zF ?zX ?zN ?zP ?zA ?zR ?zT ?zk ?zd ?zu ?_); top_raise; (case zP => ktr_rel); (case th => k_ne); top_raiseB; top_args; k_dflt (obtain ⟨t1', t2', e1', e2'⟩ := P'; top_argsB)) | (k_here; (show wpAny _ _ (call (Value.ref 330) _) _ _ _); k_dflt (refine' Spec.useG (spec_forget _ _ _ _ _ _ _ _ _ _ _ _ _ _ _ _ _ _ _ _ _ _ ?fD ?flo ?fs ?f1 ?f2 ?f5) ?zB ?zF ?zX ?zN ?zP ?zA ?zR ?zT ?zk ?zd ?zu ?_); top_raise; (case zP => ktr_rel); (case fD | flo => assumption); (case fs => omega); (case f1 | f2 | f5 => k_ne); (case zA => ktr_unf); (case zR => k_dflt (intro g1 _ hr9; exact fun p hp => PkIn.at (hP7 p hp) fun x hx => hr9 x (by (repeat (first | exact hx | refine List.Mem.tail _ ?_))))); top_raise0; top_args; k_dflt (obtain ⟨tt', e1', e2'⟩ := P'; top_argsB)) | (k_here; (show wpAny _ _ (call (Value.ref 117) _) _ _ _); k_dflt (refine' Spec.useG (spec_acked _ _ _ _ _ _ _ _ _ _ _ _ _ _ _ _ _ _ _ _ ?kth ?krc ?kne ?kW ?kW2 ?kz ?kz2 ?kc ?kc2) ?zB ?zF ?zX ?zN ?zP ?zA ?zR ?zT ?zk ?zd ?zu ?_); top_raise; (case zP => ktr_rel); (case kth | krc => assumption); (case kne => k_ne); (case kW | kW2 | kz | kz2 | kc | kc2 => omega); top_raiseB; top_args; k_dflt (obtain ⟨Wd', cr', ta', tb', tc'', e1', hW1', hW2', hc1', hc2', e2'⟩ := P'; top_argsB)) | (k_here; (show wpAny _ _ (call (Value.ref 304) _) _ _ _); k_dflt (refine' Spec.useG (spec_note_largest _ _ _ _ _ _ _ _ _ _ _ _ _ _ _ _ _ _ _ _ _ _ ?nla ?nlh) ?zB ?zF ?zX ?zN ?zP ?zA ?zR ?zT ?zk ?zd ?zu ?_); top_raise; (case zP => ktr_rel); (case nla => assumption); (case nlh => k_ne); top_raiseB; top_args; k_dflt (obtain ⟨l9, t9, e1', hl9a, hl9b, e2'⟩ := P'; top_argsB)) | (k_here; (show wpAny _ _ (call (Value.ref 271) _) _ _ _); k_dflt (refine' Spec.use (spec_sp_sent _ _ _ _ _ _ _ _ _ _ _ _ _ _ _ _ _ _ _ _ _ _ _ _ _ _ _ _ _ _ _ _ ?sd ?ss ?s1 ?s2 ?s3 ?s4 ?s5 ?s6 ?s7 ?s8 ?s9 ?s10) ?zB ?zF ?zX ?zN ?zP ?zA ?zR ?zT ?zk ?zd ?zu (sent_ret ?_)); top_raise; (case zP => ktr_rel); (case sd => assumption); (case ss => ((try simp only [List.length_map]); omega)); (case s1 | s2 | s3 | s4 | s5 | s6 | s7 | s8 | s9 | s10 => k_ne); top_raiseB; intro pa' pd' k0' k1' k2' k3' k4' k5' od' h' tk' hd' hl' hm' hA1 hA2 F' N'; top_strB) | (k_here; (show wpAny _ _ (call (Value.ref 344) _) _ _ _); k_dflt (refine' Spec.useG (spec_draw _ _ _ _ _ _ _ _ _ _ _ _ ?dhi ?dhl ?dp0 ?dp1 ?dp2 ?dp3 ?dm0 ?dm1) ?zB ?zF ?zX ?zN ?zP ?zA ?zR ?zT ?zk ?zd ?zu ?_); top_raise; (case zP => ktr_rel); (case dhi => exact hI8); (case dhl => assumption); (case dp0 | dp1 | dp2 | dp3 | dm0 | dm1 => omega); (case zA => ktr_unf); (case zR => k_dflt (intro g1 st1 hr9; exact ⟨_, hr9 (X.asc, PySem.W.listOf ys.toArray ys.length) (by k_mem), rfl, _, rfl⟩)); top_raise0; top_args; k_dflt (obtain ⟨r', tr', p0', t0', t2', e1', hr0', hr1', hp0', hp1', e2'⟩ := P'; top_argsB)) | (k_here; (show wpAny _ _ (call (Value.builtin "list.append") [Value.ref _, _]) _ _ _); k_dflt (refine' append_K ?k1 ?k2 ?k3 ?_ ?z; (case k1 => k_asm); (case k2 => k_asm); (case k3 => k_upd); (case z => (rw [sizeLine_eq]; omega)); k_whole); intro h' F' N') | (k_here; (show wpAny _ _ (call (Value.builtin "dict.pop") [Value.ref _, Value.int _ _]) _ _ _); k_dflt (refine' kob_pop (knd := PySem.intKind _ _) (more := []) ?F ?N ?U ?d (intKind_is _ _ _ _) (.inl rfl) (by rfl) (PySem.F.args_dict_pop_2 _ _) ?l ?z ?_; (case F => k_asm); (case N => k_asm); (case U => k_updF); (case d => assumption); (case l => assumption); (case z => (rw [sizeLine_eq]; assumption))); intro h' o' F' N' hd'; (try dsimp only at N')) | (k_here; (show wpAny _ _ (compareOp CmpOp.NotIn (Value.int _ _) (Value.ref _)) _ _ _); k_dflt (refine' notin_ints ?iiN ?iim ?iii ?iib ?_; (case iiN => k_asm); (case iim => k_mem); (case iii => assumption); (case iib => assumption))) | (k_here; (show wpAny _ _ (setItem (Value.ref _) (Value.str _ _) _) _ _ _); k_dflt (refine' kda_set (knd := PySem.strKind _ _) ?F ?N ?U ?d (strKind_is _ _ _ _) ?z ?_; (case F => k_asm); (case N => k_asm); (case U => k_updF); (case d => assumption); (case z => (rw [sizeLine_eq]; exact Nat.le_of_ble_eq_true rfl))); intro h' o' F' N' hd'; (try dsimp only at N')) | (k_here; (show wpAny _ _ (subscriptTail _ _ (Value.ref _) (Value.str _ _)) _ _ _); k_dflt (refine' kda_item (knd := PySem.strKind _ _) ?N ?p ?d (strKind_is _ _ _ _) ?l ?_; (case N => k_asm); (case p => k_mem); (case d => assumption); (case l => exact rfl))) | (k_here; (show wpAny _ _ (eval (Expr.Dict [] [] _) _) _ _ _); k_dflt (refine' newDict_K ?ndF ?ndN ?ndB ?_; (case ndF => k_asm); (case ndN => k_asm); (case ndB => exact Top.nolimit (by k_asm))); intro d' h' o' F' N' l1 lo' hs' fs' hi' fi'; (try k_lt l1)) | (k_here; (show wpAny _ _ (callWith _ (Value.ref _) _ _ _) _ _ _); k_dflt (refine' callWith_K0 ?cw1 ?cw2 ?_; (case cw1 => (refine' Frag.In.keeps ?ci1 ?ci2; (case ci1 => k_asm); (case ci2 => (refine' Fr.keep ?ci3; (case ci3 => k_asm))))); (case cw2 => k_is); k_whole))) | walk1 | dsimp only | (leave1; try dsimp only) | fail "no step"))
      all_goals (try dsimp only)
      refine' Spec.use2 (spec_law_is_kept _ X a3 nw3 h9 hL3 hO3) [(I, oI), (X.asc, PySem.W.listOf ys.toArray ys.length)] ?zB ?zF ?zX ?zN ?zs ?zr ?zA ?zR ?zT ?zk ?zd ?zu ?_
      case zB => k_asm
      case zF => k_asm
      case zX => k_asm
      case zN => k_asm
      case zT => k_asm
      case zk => first | exact rfl | assumption
      case zd => ktr_room
      case zu => ktr_units
      case zs => exact fun p hp => List.mem_append_left _ hp
      case zr => exact fun p hp => List.mem_append_right _ hp
      case zA => exact apart2 g1 g2
      case zR => exact fun _ _ _ => trivial
      intro v' nw4 h' tk' F' N' A' P'
      refine gen_P fun G9 kG9 => ?_
      obtain ⟨e4, hL4⟩ := P'
      subst e4
      refine kG9 ?_
      clear kG9
      have g3 : ∀ q ∈ nw4, q.1 ≠ I := fun q hq => (A' q hq _ (.head _)).symm
      have g4 : ∀ q ∈ nw4, q.1 ≠ X.asc := fun q hq => (A' q hq _ (.tail _ (.head _))).symm
      clear A'
      (repeat' (first | (k_unfold; (try dsimp only)) | (k_end; wrow_close) | (with_reducible first | (k_here; (show wpAny _ _ (call (Value.ref 148) _) _ _ _); k_dflt (refine' call_cls ?q1 ?q2 ?q3 ?q4 ?q5 ?q6 ?_; (case q1 => k_asm); (case q2 => k_asm); (case q3 => k_asm); (case q4 | q5 | q6 => k_is); k_whole); intro x' d' h' F' N' l1 l2; (try k_lt2 l2); (try k_sweep); k_dflt (refine' SpecI.useG (spec_ctl_init _ _ _ _ ?sne) ?zB ?zF ?zX ?zN ?zP ?zA ?zT ?zk ?zd ?zu ?_); top_raise; (case zP => ktr_rel); (case sne => k_ne); (case zA => ktr_unf); top_raise0; intro v' p' h' tk' F' N' A' P'; k_dflt (intro G9 kG9; cases P'; refine kG9 ?_; clear kG9; refine ⟨rfl, ?_⟩); clear A'; top_strB) | (k_here; (show wpAny _ _ (call (Value.ref 333) _) _ _ _); k_dflt (refine' call_cls ?q1 ?q2 ?q3 ?q4 ?q5 ?q6 ?_; (case q1 => k_asm); (case q2 => k_asm); (case q3 => k_asm); (case q4 | q5 | q6 => k_is); k_whole); intro x' d' h' F' N' l1 l2; (try k_lt2 l2); (try k_sweep); k_dflt (refine' SpecI.useG (spec_space_init _ _ _ _ _ ?sne) ?zB ?zF ?zX ?zN ?zP ?zA ?zT ?zk ?zd ?zu ?_); top_raise; (case zP => ktr_rel); (case sne => k_ne); (case zA => ktr_unf); top_raise0; intro v' p' h' tk' F' N' A' P'; k_dflt (intro G9 kG9; cases P'; refine kG9 ?_; clear kG9; refine ⟨rfl, ?_⟩); k_dflt (have hA3 := apart_mem A' (List.Mem.tail _ (List.Mem.tail _ (List.Mem.head _)))); clear A'; top_strB) | (k_here; (show wpAny _ _ (call (Value.ref 110) _) _ _ _); k_dflt (refine' Spec.useG (spec_discarded _ _ _ _ _ _ _ _ _ _ _ _ _ ?ch) ?zB ?zF ?zX ?zN ?zP ?zA ?zR ?zT ?zk ?zd ?zu ?_); top_raise; (case zP => ktr_rel); (case ch => k_ne); top_raiseB; top_args; k_dflt (obtain ⟨t1', e1', e2'⟩ := P'; top_argsB)) | (k_here; (show wpAny _ _ (call (Value.ref 103) _) _ _ _); k_dflt (refine' Spec.useG (spec_ctl_sent _ _ _ _ _ _ _ _ _ _ _ _ _ ?ch) ?zB ?zF ?zX ?zN ?zP ?zA ?zR ?zT ?zk ?zd ?zu ?_); top_raise; (case zP => ktr_rel); (case ch => k_ne); top_raiseB; top_args; k_dflt (obtain ⟨t1', e1', e2'⟩ := P'; top_argsB)) | (k_here; (show wpAny _ _ (call (Value.ref 264) _) _ _ _); k_dflt (refine' Spec.useG (spec_take_number _ _ _ _ _ _ _ _ _ _ _ _ _ _ _ _ _ _ _ _ _ ?th) ?zB ?zF ?zX ?zN ?zP ?zA ?zR ?zT ?zk ?zd ?zu ?_); top_raise; (case zP => ktr_rel); (case th => k_ne); top_raiseB; top_args; k_dflt (obtain ⟨t1', t2', e1', e2'⟩ := P'; top_argsB)) | (k_here; (show wpAny _ _ (call (Value.ref 330) _) _ _ _); k_dflt (refine' Spec.useG (spec_forget _ _ _ _ _ _ _ _ _ _ _ _ _ _ _ _ _ _ _ _ _ _ ?fD ?flo ?fs ?f1 ?f2 ?f5) ?zB ?zF ?zX ?zN ?zP ?zA ?zR ?zT ?zk ?zd ?zu ?_); top_raise; (case zP => ktr_rel); (case fD | flo => assumption); (case fs => omega); (case f1 | f2 | f5 => k_ne); (case zA => ktr_unf); (case zR => k_dflt (intro g1 _ hr9; exact fun p hp => PkIn.at (hP7 p hp) fun x hx => hr9 x (by (repeat (first | exact hx | refine List.Mem.tail _ ?_))))); top_raise0; top_args; k_dflt (obtain ⟨tt', e1', e2'⟩ := P'; top_argsB)) | (k_here; (show wpAny _ _ (call (Value.ref 117) _) _ _ _); k_dflt (refine' Spec.useG (spec_acked _ _ _ _ _ _ _ _ _ _ _ _ _ _ _ _ _ _ _ _ ?kth ?krc ?kne ?kW ?kW2 ?kz ?kz2 ?kc ?kc2) ?zB ?zF ?zX ?zN ?zP ?zA ?zR ?zT ?zk ?zd ?zu ?_); top_raise; (case zP => ktr_rel); (case kth | krc => assumption); (case kne => k_ne); (case kW | kW2 | kz | kz2 | kc | kc2 => omega); top_raiseB; top_args; k_dflt (obtain ⟨Wd', cr', ta', tb', tc'', e1', hW1', hW2', hc1', hc2', e2'⟩ := P'; top_argsB)) | (k_here; (show wpAny _ _ (call (Value.ref 304) _) _ _ _); k_dflt (refine' Spec.useG (spec_note_largest _ _ _ _ _ _ _ _ _ _ _ _ _ _ _ _ _ _ _ _ _ _ ?nla ?nlh) ?zB ?zF ?zX ?zN ?zP ?zA ?zR ?zT ?zk ?zd ?zu ?_); top_raise; (case zP => ktr_rel); (case nla => assumption); (case nlh => k_ne); top_raiseB; top_args; k_dflt (obtain ⟨l9, t9, e1', hl9a, hl9b, e2'⟩ := P'; top_argsB)) | (k_here; (show wpAny _ _ (call (Value.ref 271) _) _ _ _); k_dflt (refine' Spec.use (spec_sp_sent _ _ _ _ _ _ _ _ _ _ _ _ _ _ _ _ _ _ _ _ _ _ _ _ _ _ _ _ _ _ _ _ ?sd ?ss ?s1 ?s2 ?s3 ?s4 ?s5 ?s6 ?s7 ?s8 ?s9 ?s10) ?zB ?zF ?zX ?zN ?zP ?zA ?zR ?zT ?zk ?zd ?zu (sent_ret ?_)); top_raise; (case zP => ktr_rel); (case sd => assumption); (case ss => ((try simp only [List.length_map]); omega)); (case s1 | s2 | s3 | s4 | s5 | s6 | s7 | s8 | s9 | s10 => k_ne); top_raiseB; intro pa' pd' k0' k1' k2' k3' k4' k5' od' h' tk' hd' hl' hm' hA1 hA2 F' N'; top_strB) | (k_here; (show wpAny _ _ (call (Value.ref 344) _) _ _ _); k_dflt (refine' Spec.useG (spec_draw _ _ _ _ _ _ _ _ _ _ _ _ ?dhi ?dhl ?dp0 ?dp1 ?dp2 ?dp3 ?dm0 ?dm1) ?zB ?zF ?zX ?zN ?zP ?zA ?zR ?zT ?zk ?zd ?zu ?_); top_raise; (case zP => ktr_rel); (case dhi => exact hI8); (case dhl => assumption); (case dp0 | dp1 | dp2 | dp3 | dm0 | dm1 => omega); (case zA => ktr_unf); (case zR => k_dflt (intro g1 st1 hr9; exact ⟨_, hr9 (X.asc, PySem.W.listOf ys.toArray ys.length) (by k_mem), rfl, _, rfl⟩)); top_raise0; top_args; k_dflt (obtain ⟨r', tr', p0', t0', t2', e1', hr0', hr1', hp0', hp1', e2'⟩ := P'; top_argsB)) | (k_here; (show wpAny _ _ (call (Value.builtin "list.append") [Value.ref _, _]) _ _ _); k_dflt (refine' append_K ?k1 ?k2 ?k3 ?_ ?z; (case k1 => k_asm); (case k2 => k_asm); (case k3 => k_upd); (case z => (rw [sizeLine_eq]; omega)); k_whole); intro h' F' N') | (k_here; (show wpAny _ _ (call (Value.builtin "dict.pop") [Value.ref _, Value.int _ _]) _ _ _); k_dflt (refine' kob_pop (knd := PySem.intKind _ _) (more := []) ?F ?N ?U ?d (intKind_is _ _ _ _) (.inl rfl) (by rfl) (PySem.F.args_dict_pop_2 _ _) ?l ?z ?_; (case F => k_asm); (case N => k_asm); (case U => k_updF); (case d => assumption); (case l => assumption); (case z => (rw [sizeLine_eq]; assumption))); intro h' o' F' N' hd'; (try dsimp only at N')) | (k_here; (show wpAny _ _ (compareOp CmpOp.NotIn (Value.int _ _) (Value.ref _)) _ _ _); k_dflt (refine' notin_ints ?iiN ?iim ?iii ?iib ?_; (case iiN => k_asm); (case iim => k_mem); (case iii => assumption); (case iib => assumption))) | (k_here; (show wpAny _ _ (setItem (Value.ref _) (Value.str _ _) _) _ _ _); k_dflt (refine' kda_set (knd := PySem.strKind _ _) ?F ?N ?U ?d (strKind_is _ _ _ _) ?z ?_; (case F => k_asm); (case N => k_asm); (case U => k_updF); (case d => assumption); (case z => (rw [sizeLine_eq]; exact Nat.le_of_ble_eq_true rfl))); intro h' o' F' N' hd'; (try dsimp only at N')) | (k_here; (show wpAny _ _ (subscriptTail _ _ (Value.ref _) (Value.str _ _)) _ _ _); k_dflt (refine' kda_item (knd := PySem.strKind _ _) ?N ?p ?d (strKind_is _ _ _ _) ?l ?_; (case N => k_asm); (case p => k_mem); (case d => assumption); (case l => exact rfl))) | (k_here; (show wpAny _ _ (eval (Expr.Dict [] [] _) _) _ _ _); k_dflt (refine' newDict_K ?ndF ?ndN ?ndB ?_; (case ndF => k_asm); (case ndN => k_asm); (case ndB => exact Top.nolimit (by k_asm))); intro d' h' o' F' N' l1 lo' hs' fs' hi' fi'; (try k_lt l1)) | (k_here; (show wpAny _ _ (callWith _ (Value.ref _) _ _ _) _ _ _); k_dflt (refine' callWith_K0 ?cw1 ?cw2 ?_; (case cw1 => (refine' Frag.In.keeps ?ci1 ?ci2; (case ci1 => k_asm); (case ci2 => (refine' Fr.keep ?ci3; (case ci3 => k_asm))))); (case cw2 => k_is); k_whole))) | walk1 | dsimp only | (leave1; try dsimp only) | fail "no step"))
      all_goals (try dsimp only)
      exact ForEnd.of (nw := (X.asc, PySem.W.listOf ys.toArray ys.length) :: nw4) (by k_asm) (by k_asm) ⟨⟨a3, nw4, rfl, hL4, hO3, by omega, by omega, g4⟩,
        (by intro y hy; simp only [List.mem_cons, List.not_mem_nil, or_false, not_or] at hy; obtain ⟨y1, y2, y3⟩ := hy; simp only [y1, y2, y3, if_false, tmp])⟩ (List.mem_append_right _ (.head _))
        (sub_cons (List.mem_append_right _ (.tail _ (.head _))) fun p hp => List.mem_append_left _ hp) (all_cons.mpr ⟨nI, g3⟩) sub_nil
    · obtain ⟨nw2, hL2, hs2⟩ := hclose p0' t0' t2' _ _ (a.dr + 1 + 1) _ ⟨hp0', hp1'⟩ hW3
      have hO2 := hO.setnow (dr := a.dr + 1 + 1) (now := a.now + ([0, 100, 300] : List Int).getD r'.toNat 0) (by omega)
      have f1 : ∀ q ∈ nw2, q.1 ≠ I := fun q hq => (all_cons.mpr ⟨nIa, all_cons.mpr ⟨nIw, rI⟩⟩) q (hs2 q hq)
      have f2 : ∀ q ∈ nw2, q.1 ≠ X.asc := fun q hq => (all_cons.mpr ⟨nAa, all_cons.mpr ⟨nAw, rA⟩⟩) q (hs2 q hq)
      refine' Spec.use2 (spec_law_acks _ X _ nw2 _ _ hI8 ?hlen h9 hL2 hO2 ?hdr) [(I, oI), (X.asc, PySem.W.listOf ys.toArray ys.length)] ?zB ?zF ?zX ?zN ?zs ?zr ?zA ?zR ?zT ?zk ?zd ?zu ?_
      case zB => k_asm
      case zF => k_asm
      case zX => k_asm
      case zN => k_asm
      case zT => k_asm
      case zk => first | exact rfl | assumption
      case zd => ktr_room
      case zu => ktr_units
      case zs => exact fun p hp => (sub_cons (by k_mem) (sub_cons (by k_mem) (by tb_rel))) p (hs2 p hp)
      case zr => tb_rel
      case zA => exact apart2 f1 f2
      case zR => exact fun g st hr => ⟨_, hr (X.asc, PySem.W.listOf ys.toArray ys.length) (.tail _ (.head _)), rfl, _, rfl⟩
      case hlen => assumption
      case hdr => (dsimp only; omega)
      intro v' nw3 h' tk' F' N' A' P'
      refine gen_P fun G9 kG9 => ?_
      obtain ⟨a3, e3, hL3, hO3, hN3, hdr3, -⟩ := P'
      dsimp only at hN3 hdr3
      subst e3
      refine kG9 ?_
      clear kG9
      have g1 : ∀ q ∈ nw3, q.1 ≠ I := fun q hq => (A' q hq _ (.head _)).symm
      have g2 : ∀ q ∈ nw3, q.1 ≠ X.asc := fun q hq => (A' q hq _ (.tail _ (.head _))).symm
      clear A'
      (repeat' (first | (k_unfold; (try dsimp only)) | (k_end; wrow_close) | (with_reducible first | (k_here; (show wpAny _ _ (call (Value.ref 148) _) _ _ _); k_dflt (refine' call_cls ?q1 ?q2 ?q3 ?q4 ?q5 ?q6 ?_; (case q1 => k_asm); (case q2 => k_asm); (case q3 => k_asm); (case q4 | q5 | q6 => k_is); k_whole); intro x' d' h' F' N' l1 l2; (try k_lt2 l2); (try k_sweep); k_dflt (refine' SpecI.useG (spec_ctl_init _ _ _ _ ?sne) ?zB ?zF ?zX ?zN ?zP ?zA ?zT ?zk ?zd ?zu ?_); top_raise; (case zP => ktr_rel); (case sne => k_ne); (case zA => ktr_unf); top_raise0; intro v' p' h' tk' F' N' A' P'; k_dflt (intro G9 kG9; cases P'; refine kG9 ?_; clear kG9; refine ⟨rfl, ?_⟩); clear A'; top_strB) | (k_here; (show wpAny _ _ (call (Value.ref 333) _) _ _ _); k_dflt (refine' call_cls ?q1 ?q2 ?q3 ?q4 ?q5 ?q6 ?_; (case q1 => k_asm); (case q2 => k_asm); (case q3 => k_asm); (case q4 | q5 | q6 => k_is); k_whole); intro x' d' h' F' N' l1 l2; (try k_lt2 l2); (try k_sweep); k_dflt (refine' SpecI.useG (spec_space_init _ _ _ _ _ ?sne) ?zB ?zF ?zX ?zN ?zP ?zA ?zT ?zk ?zd ?zu ?_); top_raise; (case zP => ktr_rel); (case sne => k_ne); (case zA => ktr_unf); top_raise0; intro v' p' h' tk' F' N' A' P'; k_dflt (intro G9 kG9; cases P'; refine kG9 ?_; clear kG9; refine ⟨rfl, ?_⟩); k_dflt (have hA3 := apart_mem A' (List.Mem.tail _ (List.Mem.tail _ (List.Mem.head _)))); clear A'; top_strB) | (k_here; (show wpAny _ _ (call (Value.ref 110) _) _ _ _); k_dflt (refine' Spec.useG (spec_discarded _ _ _ _ _ _ _ _ _ _ _ _ _ ?ch) ?zB ?zF ?zX ?zN ?zP ?zA ?zR ?zT ?zk ?zd ?zu ?_); top_raise; (case zP => ktr_rel); (case ch => k_ne); top_raiseB; top_args; k_dflt (obtain ⟨t1', e1', e2'⟩ := P'; top_argsB)) | (k_here; (show wpAny _ _ (call (Value.ref 103) _) _ _ _); k_dflt (refine' Spec.useG (spec_ctl_sent _ _ _ _ _ _ _ _ _ _ _ _ _ ?ch) ?zB ?zF ?zX ?zN ?zP ?zA ?zR ?zT ?zk ?zd ?zu ?_); top_raise; (case zP => ktr_rel); (case ch => k_ne); top_raiseB; top_args; k_dflt (obtain ⟨t1', e1', e2'⟩ := P'; top_argsB)) | (k_here; (show wpAny _ _ (call (Value.ref 264) _) _ _ _); k_dflt (refine' Spec.useG (spec_take_number _ _ _ _ _ _ _ _ _ _ _ _ _ _ _ _ _ _ _ _ _ ?th) ?zB ?zF ?zX ?zN ?zP ?zA ?zR ?zT ?zk ?zd ?zu ?_); top_raise; (case zP => ktr_rel); (case th => k_ne); top_raiseB; top_args; k_dflt (obtain ⟨t1', t2', e1', e2'⟩ := P'; top_argsB)) | (k_here; (show wpAny _ _ (call (Value.ref 330) _) _ _ _); k_dflt (refine' Spec.useG (spec_forget _ _ _ _ _ _ _ _ _ _ _ _ _ _ _ _ _ _ _ _ _ _ ?fD ?flo ?fs ?f1 ?f2 ?f5) ?zB ?zF ?zX ?zN ?zP ?zA ?zR ?zT ?zk ?zd ?zu ?_); top_raise; (case zP => ktr_rel); (case fD | flo => assumption); (case fs => omega); (case f1 | f2 | f5 => k_ne); (case zA => ktr_unf); (case zR => k_dflt (intro g1 _ hr9; exact fun p hp => PkIn.at (hP7 p hp) fun x hx => hr9 x (by (repeat (first | exact hx | refine List.Mem.tail _ ?_))))); top_raise0; top_args; k_dflt (obtain ⟨tt', e1', e2'⟩ := P'; top_argsB)) | (k_here; (show wpAny _ _ (call (Value.ref 117) _) _ _ _); k_dflt (refine' Spec.useG (spec_acked _ _ _ _ _ _ _ _ _ _ _ _ _ _ _ _ _ _ _ _ ?kth ?krc ?kne ?kW ?kW2 ?kz ?kz2 ?kc ?kc2) ?zB ?zF ?zX ?zN ?zP ?zA ?zR ?zT ?zk ?zd ?zu ?_); top_raise; (case zP => ktr_rel); (case kth | krc => assumption); (case kne => k_ne); (case kW | kW2 | kz | kz2 | kc | kc2 => omega); top_raiseB; top_args; k_dflt (obtain ⟨Wd', cr', ta', tb', tc'', e1', hW1', hW2', hc1', hc2', e2'⟩ := P'; top_argsB)) | (k_here; (show wpAny _ _ (call (Value.ref 304) _) _ _ _); k_dflt (refine' Spec.useG (spec_note_largest _ _ _ _ _ _ _ _ _ _ _ _ _ _ _ _ _ _ _ _ _ _ ?nla ?nlh) ?zB ?zF ?zX ?zN ?zP ?zA ?zR ?zT ?zk ?zd ?zu ?_); top_raise; (case zP => ktr_rel); (case nla => assumption); (case nlh => k_ne); top_raiseB; top_args; k_dflt (obtain ⟨l9, t9, e1', hl9a, hl9b, e2'⟩ := P'; top_argsB)) | (k_here; (show wpAny _ _ (call (Value.ref 271) _) _ _ _); k_dflt (refine' Spec.use (spec_sp_sent _ _ _ _ _ _ _ _ _ _ _ _ _ _ _ _ _ _ _ _ _ _ _ _ _ _ _ _ _ _ _ _ ?sd ?ss ?s1 ?s2 ?s3 ?s4 ?s5 ?s6 ?s7 ?s8 ?s9 ?s10) ?zB ?zF ?zX ?zN ?zP ?zA ?zR ?zT ?zk ?zd ?zu (sent_ret ?_)); top_raise; (case zP => ktr_rel); (case sd => assumption); (case ss => ((try simp only [List.length_map]); omega)); (case s1 | s2 | s3 | s4 | s5 | s6 | s7 | s8 | s9 | s10 => k_ne); top_raiseB; intro pa' pd' k0' k1' k2' k3' k4' k5' od' h' tk' hd' hl' hm' hA1 hA2 F' N'; top_strB) | (k_here; (show wpAny _ _ (call (Value.ref 344) _) _ _ _); k_dflt (refine' Spec.useG (spec_draw _ _ _ _ _ _ _ _ _ _ _ _ ?dhi ?dhl ?dp0 ?dp1 ?dp2 ?dp3 ?dm0 ?dm1) ?zB ?zF ?zX ?zN ?zP ?zA ?zR ?zT ?zk ?zd ?zu ?_); top_raise; (case zP => ktr_rel); (case dhi => exact hI8); (case dhl => assumption); (case dp0 | dp1 | dp2 | dp3 | dm0 | dm1 => omega); (case zA => ktr_unf); (case zR => k_dflt (intro g1 st1 hr9; exact ⟨_, hr9 (X.asc, PySem.W.listOf ys.toArray ys.length) (by k_mem), rfl, _, rfl⟩)); top_raise0; top_args; k_dflt (obtain ⟨r', tr', p0', t0', t2', e1', hr0', hr1', hp0', hp1', e2'⟩ := P'; top_argsB)) | (k_here; (show wpAny _ _ (call (Value.builtin "list.append") [Value.ref _, _]) _ _ _); k_dflt (refine' append_K ?k1 ?k2 ?k3 ?_ ?z; (case k1 => k_asm); (case k2 => k_asm); (case k3 => k_upd); (case z => (rw [sizeLine_eq]; omega)); k_whole); intro h' F' N') | (k_here; (show wpAny _ _ (call (Value.builtin "dict.pop") [Value.ref _, Value.int _ _]) _ _ _); k_dflt (refine' kob_pop (knd := PySem.intKind _ _) (more := []) ?F ?N ?U ?d (intKind_is _ _ _ _) (.inl rfl) (by rfl) (PySem.F.args_dict_pop_2 _ _) ?l ?z ?_; (case F => k_asm); (case N => k_asm); (case U => k_updF); (case d => assumption); (case l => assumption); (case z => (rw [sizeLine_eq]; assumption))); intro h' o' F' N' hd'; (try dsimp only at N')) | (k_here; (show wpAny _ _ (compareOp CmpOp.NotIn (Value.int _ _) (Value.ref _)) _ _ _); k_dflt (refine' notin_ints ?iiN ?iim ?iii ?iib ?_; (case iiN => k_asm); (case iim => k_mem); (case iii => assumption); (case iib => assumption))) | (k_here; (show wpAny _ _ (setItem (Value.ref _) (Value.str _ _) _) _ _ _); k_dflt (refine' kda_set (knd := PySem.strKind _ _) ?F ?N ?U ?d (strKind_is _ _ _ _) ?z ?_; (case F => k_asm); (case N => k_asm); (case U => k_updF); (case d => assumption); (case z => (rw [sizeLine_eq]; exact Nat.le_of_ble_eq_true rfl))); intro h' o' F' N' hd'; (try dsimp only at N')) | (k_here; (show wpAny _ _ (subscriptTail _ _ (Value.ref _) (Value.str _ _)) _ _ _); k_dflt (refine' kda_item (knd := PySem.strKind _ _) ?N ?p ?d (strKind_is _ _ _ _) ?l ?_; (case N => k_asm); (case p => k_mem); (case d => assumption); (case l => exact rfl))) | (k_here; (show wpAny _ _ (eval (Expr.Dict [] [] _) _) _ _ _); k_dflt (refine' newDict_K ?ndF ?ndN ?ndB ?_; (case ndF => k_asm); (case ndN => k_asm); (case ndB => exact Top.nolimit (by k_asm))); intro d' h' o' F' N' l1 lo' hs' fs' hi' fi'; (try k_lt l1)) | (k_here; (show wpAny _ _ (callWith _ (Value.ref _) _ _ _) _ _ _); k_dflt (refine' callWith_K0 ?cw1 ?cw2 ?_; (case cw1 => (refine' Frag.In.keeps ?ci1 ?ci2; (case ci1 => k_asm); (case ci2 => (refine' Fr.keep ?ci3; (case ci3 => k_asm))))); (case cw2 => k_is); k_whole))) | walk1 | dsimp only | (leave1; try dsimp only) | fail "no step"))
      all_goals (try dsimp only)
      refine' Spec.use2 (spec_law_is_kept _ X a3 nw3 h9 hL3 hO3) [(I, oI), (X.asc, PySem.W.listOf ys.toArray ys.length)] ?zB ?zF ?zX ?zN ?zs ?zr ?zA ?zR ?zT ?zk ?zd ?zu ?_
      case zB => k_asm
      case zF => k_asm
      case zX => k_asm
      case zN => k_asm
      case zT => k_asm
      case zk => first | exact rfl | assumption
      case zd => ktr_room
      case zu => ktr_units
      case zs => exact fun p hp => List.mem_append_left _ hp
      case zr => exact fun p hp => List.mem_append_right _ hp
      case zA => exact apart2 g1 g2
      case zR => exact fun _ _ _ => trivial
      intro v' nw4 h' tk' F' N' A' P'
      refine gen_P fun G9 kG9 => ?_
      obtain ⟨e4, hL4⟩ := P'
      subst e4
      refine kG9 ?_
      clear kG9
      have g3 : ∀ q ∈ nw4, q.1 ≠ I := fun q hq => (A' q hq _ (.head _)).symm
      have g4 : ∀ q ∈ nw4, q.1 ≠ X.asc := fun q hq => (A' q hq _ (.tail _ (.head _))).symm
      clear A'
      (repeat' (first | (k_unfold; (try dsimp only)) | (k_end; wrow_close) | (with_reducible first | (k_here; (show wpAny _ _ (call (Value.ref 148) _) _ _ _); k_dflt (refine' call_cls ?q1 ?q2 ?q3 ?q4 ?q5 ?q6 ?_; (case q1 => k_asm); (case q2 => k_asm); (case q3 => k_asm); (case q4 | q5 | q6 => k_is); k_whole); intro x' d' h' F' N' l1 l2; (try k_lt2 l2); (try k_sweep); k_dflt (refine' SpecI.useG (spec_ctl_init _ _ _ _ ?sne) ?zB ?zF ?zX ?zN ?zP ?zA ?zT ?zk ?zd ?zu ?_); top_raise; (case zP => ktr_rel); (case sne => k_ne); (case zA => ktr_unf); top_raise0; intro v' p' h' tk' F' N' A' P'; k_dflt (intro G9 kG9; cases P'; refine kG9 ?_; clear kG9; refine ⟨rfl, ?_⟩); clear A'; top_strB) | (k_here; (show wpAny _ _ (call (Value.ref 333) _) _ _ _); k_dflt (refine' call_cls ?q1 ?q2 ?q3 ?q4 ?q5 ?q6 ?_; (case q1 => k_asm); (case q2 => k_asm); (case q3 => k_asm); (case q4 | q5 | q6 => k_is); k_whole); intro x' d' h' F' N' l1 l2; (try k_lt2 l2); (try k_sweep); k_dflt (refine' SpecI.useG (spec_space_init _ _ _ _ _ ?sne) ?zB ?zF ?zX ?zN ?zP ?zA ?zT ?zk ?zd ?zu ?_); top_raise; (case zP => ktr_rel); (case sne => k_ne); (case zA => ktr_unf); top_raise0; intro v' p' h' tk' F' N' A' P'; k_dflt (intro G9 kG9; cases P'; refine kG9 ?_; clear kG9; refine ⟨rfl, ?_⟩); k_dflt (have hA3 := apart_mem A' (List.Mem.tail _ (List.Mem.tail _ (List.Mem.head _)))); clear A'; top_strB) | (k_here; (show wpAny _ _ (call (Value.ref 110) _) _ _ _); k_dflt (refine' Spec.useG (spec_discarded _ _ _ _ _ _ _ _ _ _ _ _ _ ?ch) ?zB ?zF ?zX ?zN ?zP ?zA ?zR ?zT ?zk ?zd ?zu ?_); top_raise; (case zP => ktr_rel); (case ch => k_ne); top_raiseB; top_args; k_dflt (obtain ⟨t1', e1', e2'⟩ := P'; top_argsB)) | (k_here; (show wpAny _ _ (call (Value.ref 103) _) _ _ _); k_dflt (refine' Spec.useG (spec_ctl_sent _ _ _ _ _ _ _ _ _ _ _ _ _ ?ch) ?zB ?zF ?zX ?zN ?zP ?zA ?zR ?zT ?zk ?zd ?zu ?_); top_raise; (case zP => ktr_rel); (case ch => k_ne); top_raiseB; top_args; k_dflt (obtain ⟨t1', e1', e2'⟩ := P'; top_argsB)) | (k_here; (show wpAny _ _ (call (Value.ref 264) _) _ _ _); k_dflt (refine' Spec.useG (spec_take_number _ _ _ _ _ _ _ _ _ _ _ _ _ _ _ _ _ _ _ _ _ ?th) ?zB ?zF ?zX ?zN ?zP ?zA ?zR ?zT ?zk ?zd ?zu ?_); top_raise; (case zP => ktr_rel); (case th => k_ne); top_raiseB; top_args; k_dflt (obtain ⟨t1', t2', e1', e2'⟩ := P'; top_argsB)) | (k_here; (show wpAny _ _ (call (Value.ref 330) _) _ _ _); k_dflt (refine' Spec.useG (spec_forget _ _ _ _ _ _ _ _ _ _ _ _ _ _ _ _ _ _ _ _ _ _ ?fD ?flo ?fs ?f1 ?f2 ?f5) ?zB ?zF ?zX ?zN ?zP ?zA ?zR ?zT ?zk ?zd ?zu ?_); top_raise; (case zP => ktr_rel); (case fD | flo => assumption); (case fs => omega); (case f1 | f2 | f5 => k_ne); (case zA => ktr_unf); (case zR => k_dflt (intro g1 _ hr9; exact fun p hp => PkIn.at (hP7 p hp) fun x hx => hr9 x (by (repeat (first | exact hx | refine List.Mem.tail _ ?_))))); top_raise0; top_args; k_dflt (obtain ⟨tt', e1', e2'⟩ := P'; top_argsB)) | (k_here; (show wpAny _ _ (call (Value.ref 117) _) _ _ _); k_dflt (refine' Spec.useG (spec_acked _ _ _ _ _ _ _ _ _ _ _ _ _ _ _ _ _ _ _ _ ?kth ?krc ?kne ?kW ?kW2 ?kz ?kz2 ?kc ?kc2) ?zB ?zF ?zX ?zN ?zP ?zA ?zR ?zT ?zk ?zd ?zu ?_); top_raise; (case zP => ktr_rel); (case kth | krc => assumption); (case kne => k_ne); (case kW | kW2 | kz | kz2 | kc | kc2 => omega); top_raiseB; top_args; k_dflt (obtain ⟨Wd', cr', ta', tb', tc'', e1', hW1', hW2', hc1', hc2', e2'⟩ := P'; top_argsB)) | (k_here; (show wpAny _ _ (call (Value.ref 304) _) _ _ _); k_dflt (refine' Spec.useG (spec_note_largest _ _ _ _ _ _ _ _ _ _ _ _ _ _ _ _ _ _ _ _ _ _ ?nla ?nlh) ?zB ?zF ?zX ?zN ?zP ?zA ?zR ?zT ?zk ?zd ?zu ?_); top_raise; (case zP => ktr_rel); (case nla => assumption); (case nlh => k_ne); top_raiseB; top_args; k_dflt (obtain ⟨l9, t9, e1', hl9a, hl9b, e2'⟩ := P'; top_argsB)) | (k_here; (show wpAny _ _ (call (Value.ref 271) _) _ _ _); k_dflt (refine' Spec.use (spec_sp_sent _ _ _ _ _ _ _ _ _ _ _ _ _ _ _ _ _ _ _ _ _ _ _ _ _ _ _ _ _ _ _ _ ?sd ?ss ?s1 ?s2 ?s3 ?s4 ?s5 ?s6 ?s7 ?s8 ?s9 ?s10) ?zB ?zF ?zX ?zN ?zP ?zA ?zR ?zT ?zk ?zd ?zu (sent_ret ?_)); top_raise; (case zP => ktr_rel); (case sd => assumption); (case ss => ((try simp only [List.length_map]); omega)); (case s1 | s2 | s3 | s4 | s5 | s6 | s7 | s8 | s9 | s10 => k_ne); top_raiseB; intro pa' pd' k0' k1' k2' k3' k4' k5' od' h' tk' hd' hl' hm' hA1 hA2 F' N'; top_strB) | (k_here; (show wpAny _ _ (call (Value.ref 344) _) _ _ _); k_dflt (refine' Spec.useG (spec_draw _ _ _ _ _ _ _ _ _ _ _ _ ?dhi ?dhl ?dp0 ?dp1 ?dp2 ?dp3 ?dm0 ?dm1) ?zB ?zF ?zX ?zN ?zP ?zA ?zR ?zT ?zk ?zd ?zu ?_); top_raise; (case zP => ktr_rel); (case dhi => exact hI8); (case dhl => assumption); (case dp0 | dp1 | dp2 | dp3 | dm0 | dm1 => omega); (case zA => ktr_unf); (case zR => k_dflt (intro g1 st1 hr9; exact ⟨_, hr9 (X.asc, PySem.W.listOf ys.toArray ys.length) (by k_mem), rfl, _, rfl⟩)); top_raise0; top_args; k_dflt (obtain ⟨r', tr', p0', t0', t2', e1', hr0', hr1', hp0', hp1', e2'⟩ := P'; top_argsB)) | (k_here; (show wpAny _ _ (call (Value.builtin "list.append") [Value.ref _, _]) _ _ _); k_dflt (refine' append_K ?k1 ?k2 ?k3 ?_ ?z; (case k1 => k_asm); (case k2 => k_asm); (case k3 => k_upd); (case z => (rw [sizeLine_eq]; omega)); k_whole); intro h' F' N') | (k_here; (show wpAny _ _ (call (Value.builtin "dict.pop") [Value.ref _, Value.int _ _]) _ _ _); k_dflt (refine' kob_pop (knd := PySem.intKind _ _) (more := []) ?F ?N ?U ?d (intKind_is _ _ _ _) (.inl rfl) (by rfl) (PySem.F.args_dict_pop_2 _ _) ?l ?z ?_; (case F => k_asm); (case N => k_asm); (case U => k_updF); (case d => assumption); (case l => assumption); (case z => (rw [sizeLine_eq]; assumption))); intro h' o' F' N' hd'; (try dsimp only at N')) | (k_here; (show wpAny _ _ (compareOp CmpOp.NotIn (Value.int _ _) (Value.ref _)) _ _ _); k_dflt (refine' notin_ints ?iiN ?iim ?iii ?iib ?_; (case iiN => k_asm); (case iim => k_mem); (case iii => assumption); (case iib => assumption))) | (k_here; (show wpAny _ _ (setItem (Value.ref _) (Value.str _ _) _) _ _ _); k_dflt (refine' kda_set (knd := PySem.strKind _ _) ?F ?N ?U ?d (strKind_is _ _ _ _) ?z ?_; (case F => k_asm); (case N => k_asm); (case U => k_updF); (case d => assumption); (case z => (rw [sizeLine_eq]; exact Nat.le_of_ble_eq_true rfl))); intro h' o' F' N' hd'; (try dsimp only at N')) | (k_here; (show wpAny _ _ (subscriptTail _ _ (Value.ref _) (Value.str _ _)) _ _ _); k_dflt (refine' kda_item (knd := PySem.strKind _ _) ?N ?p ?d (strKind_is _ _ _ _) ?l ?_; (case N => k_asm); (case p => k_mem); (case d => assumption); (case l => exact rfl))) | (k_here; (show wpAny _ _ (eval (Expr.Dict [] [] _) _) _ _ _); k_dflt (refine' newDict_K ?ndF ?ndN ?ndB ?_; (case ndF => k_asm); (case ndN => k_asm); (case ndB => exact Top.nolimit (by k_asm))); intro d' h' o' F' N' l1 lo' hs' fs' hi' fi'; (try k_lt l1)) | (k_here; (show wpAny _ _ (callWith _ (Value.ref _) _ _ _) _ _ _); k_dflt (refine' callWith_K0 ?cw1 ?cw2 ?_; (case cw1 => (refine' Frag.In.keeps ?ci1 ?ci2; (case ci1 => k_asm); (case ci2 => (refine' Fr.keep ?ci3; (case ci3 => k_asm))))); (case cw2 => k_is); k_whole))) | walk1 | dsimp only | (leave1; try dsimp only) | fail "no step"))
      all_goals (try dsimp only)
      exact ForEnd.of (nw := (X.asc, PySem.W.listOf ys.toArray ys.length) :: nw4) (by k_asm) (by k_asm) ⟨⟨a3, nw4, rfl, hL4, hO3, by omega, by omega, g4⟩,
        (by intro y hy; simp only [List.mem_cons, List.not_mem_nil, or_false, not_or] at hy; obtain ⟨y1, y2, y3⟩ := hy; simp only [y1, y2, y3, if_false, tmp])⟩ (List.mem_append_right _ (.head _))
        (sub_cons (List.mem_append_right _ (.tail _ (.head _))) fun p hp => List.mem_append_left _ hp) (all_cons.mpr ⟨nI, g3⟩) sub_nil
    · obtain ⟨nw2, hL2, hs2⟩ := hclose p0' t0' t2' _ _ (a.dr + 1 + 1) _ ⟨hp0', hp1'⟩ hW3
      have hO2 := hO.setnow (dr := a.dr + 1 + 1) (now := a.now + ([0, 100, 300] : List Int).getD r'.toNat 0) (by omega)
      have f1 : ∀ q ∈ nw2, q.1 ≠ I := fun q hq => (all_cons.mpr ⟨nIa, all_cons.mpr ⟨nIw, rI⟩⟩) q (hs2 q hq)
      have f2 : ∀ q ∈ nw2, q.1 ≠ X.asc := fun q hq => (all_cons.mpr ⟨nAa, all_cons.mpr ⟨nAw, rA⟩⟩) q (hs2 q hq)
      refine' Spec.use2 (spec_law_loses _ X _ nw2 h9 hL2 hO2) [(I, oI), (X.asc, PySem.W.listOf ys.toArray ys.length)] ?zB ?zF ?zX ?zN ?zs ?zr ?zA ?zR ?zT ?zk ?zd ?zu ?_
      case zB => k_asm
      case zF => k_asm
      case zX => k_asm
      case zN => k_asm
      case zT => k_asm
      case zk => first | exact rfl | assumption
      case zd => ktr_room
      case zu => ktr_units
      case zs => exact fun p hp => (sub_cons (by k_mem) (sub_cons (by k_mem) (by tb_rel))) p (hs2 p hp)
      case zr => tb_rel
      case zA => exact apart2 f1 f2
      case zR => exact fun _ _ _ => trivial
      intro v' nw3 h' tk' F' N' A' P'
      refine gen_P fun G9 kG9 => ?_
      obtain ⟨a3, e3, hL3, hO3, hN3, hdr3, -, -, -⟩ := P'
      dsimp only at hN3 hdr3
      subst e3
      refine kG9 ?_
      clear kG9
      have g1 : ∀ q ∈ nw3, q.1 ≠ I := fun q hq => (A' q hq _ (.head _)).symm
      have g2 : ∀ q ∈ nw3, q.1 ≠ X.asc := fun q hq => (A' q hq _ (.tail _ (.head _))).symm
      clear A'
      (repeat' (first | (k_unfold; (try dsimp only)) | (k_end; wrow_close) | (with_reducible first | (k_here; (show wpAny _ _ (call (Value.ref 148) _) _ _ _); k_dflt (refine' call_cls ?q1 ?q2 ?q3 ?q4 ?q5 ?q6 ?_; (case q1 => k_asm); (case q2 => k_asm); (case q3 => k_asm); (case q4 | q5 | q6 => k_is); k_whole); intro x' d' h' F' N' l1 l2; (try k_lt2 l2); (try k_sweep); k_dflt (refine' SpecI.useG (spec_ctl_init _ _ _ _ ?sne) ?zB ?zF ?zX ?zN ?zP ?zA ?zT ?zk ?zd ?zu ?_); top_raise; (case zP => ktr_rel); (case sne => k_ne); (case zA => ktr_unf); top_raise0; intro v' p' h' tk' F' N' A' P'; k_dflt (intro G9 kG9; cases P'; refine kG9 ?_; clear kG9; refine ⟨rfl, ?_⟩); clear A'; top_strB) | (k_here; (show wpAny _ _ (call (Value.ref 333) _) _ _ _); k_dflt (refine' call_cls ?q1 ?q2 ?q3 ?q4 ?q5 ?q6 ?_; (case q1 => k_asm); (case q2 => k_asm); (case q3 => k_asm); (case q4 | q5 | q6 => k_is); k_whole); intro x' d' h' F' N' l1 l2; (try k_lt2 l2); (try k_sweep); k_dflt (refine' SpecI.useG (spec_space_init _ _ _ _ _ ?sne) ?zB ?zF ?zX ?zN ?zP ?zA ?zT ?zk ?zd ?zu ?_); top_raise; (case zP => ktr_rel); (case sne => k_ne); (case zA => ktr_unf); top_raise0; intro v' p' h' tk' F' N' A' P'; k_dflt (intro G9 kG9; cases P'; refine kG9 ?_; clear kG9; refine ⟨rfl, ?_⟩); k_dflt (have hA3 := apart_mem A' (List.Mem.tail _ (List.Mem.tail _ (List.Mem.head _)))); clear A'; top_strB) | (k_here; (show wpAny _ _ (call (Value.ref 110) _) _ _ _); k_dflt (refine' Spec.useG (spec_discarded _ _ _ _ _ _ _ _ _ _ _ _ _ ?ch) ?zB ?zF ?zX ?zN ?zP ?zA ?zR ?zT ?zk ?zd ?zu ?_); top_raise; (case zP => ktr_rel); (case ch => k_ne); top_raiseB; top_args; k_dflt (obtain ⟨t1', e1', e2'⟩ := P'; top_argsB)) | (k_here; (show wpAny _ _ (call (Value.ref 103) _) _ _ _); k_dflt (refine' Spec.useG (spec_ctl_sent _ _ _ _ _ _ _ _ _ _ _ _ _ ?ch) ?zB ?zF ?zX ?zN ?zP ?zA ?zR ?zT ?zk ?zd ?zu ?_); top_raise; (case zP => ktr_rel); (case ch => k_ne); top_raiseB; top_args; k_dflt (obtain ⟨t1', e1', e2'⟩ := P'; top_argsB)) | (k_here; (show wpAny _ _ (call (Value.ref 264) _) _ _ _); k_dflt (refine' Spec.useG (spec_take_number _ _ _ _ _ _ _ _ _ _ _ _ _ _ _ _ _ _ _ _ _ ?th) ?zB ?zF ?zX ?zN ?zP ?zA ?zR ?zT ?zk ?zd ?zu ?_); top_raise; (case zP => ktr_rel); (case th => k_ne); top_raiseB; top_args; k_dflt (obtain ⟨t1', t2', e1', e2'⟩ := P'; top_argsB)) | (k_here; (show wpAny _ _ (call (Value.ref 330) _) _ _ _); k_dflt (refine' Spec.useG (spec_forget _ _ _ _ _ _ _ _ _ _ _ _ _ _ _ _ _ _ _ _ _ _ ?fD ?flo ?fs ?f1 ?f2 ?f5) ?zB ?zF ?zX ?zN ?zP ?zA ?zR ?zT ?zk ?zd ?zu ?_); top_raise; (case zP => ktr_rel); (case fD | flo => assumption); (case fs => omega); (case f1 | f2 | f5 => k_ne); (case zA => ktr_unf); (case zR => k_dflt (intro g1 _ hr9; exact fun p hp => PkIn.at (hP7 p hp) fun x hx => hr9 x (by (repeat (first | exact hx | refine List.Mem.tail _ ?_))))); top_raise0; top_args; k_dflt (obtain ⟨tt', e1', e2'⟩ := P'; top_argsB)) | (k_here; (show wpAny _ _ (call (Value.ref 117) _) _ _ _); k_dflt (refine' Spec.useG (spec_acked _ _ _ _ _ _ _ _ _ _ _ _ _ _ _ _ _ _ _ _ ?kth ?krc ?kne ?kW ?kW2 ?kz ?kz2 ?kc ?kc2) ?zB ?zF ?zX ?zN ?zP ?zA ?zR ?zT ?zk ?zd ?zu ?_); top_raise; (case zP => ktr_rel); (case kth | krc => assumption); (case kne => k_ne); (case kW | kW2 | kz | kz2 | kc | kc2 => omega); top_raiseB; top_args; k_dflt (obtain ⟨Wd', cr', ta', tb', tc'', e1', hW1', hW2', hc1', hc2', e2'⟩ := P'; top_argsB)) | (k_here; (show wpAny _ _ (call (Value.ref 304) _) _ _ _); k_dflt (refine' Spec.useG (spec_note_largest _ _ _ _ _ _ _ _ _ _ _ _ _ _ _ _ _ _ _ _ _ _ ?nla ?nlh) ?zB ?zF ?zX ?zN ?zP ?zA ?zR ?zT ?zk ?zd ?zu ?_); top_raise; (case zP => ktr_rel); (case nla => assumption); (case nlh => k_ne); top_raiseB; top_args; k_dflt (obtain ⟨l9, t9, e1', hl9a, hl9b, e2'⟩ := P'; top_argsB)) | (k_here; (show wpAny _ _ (call (Value.ref 271) _) _ _ _); k_dflt (refine' Spec.use (spec_sp_sent _ _ _ _ _ _ _ _ _ _ _ _ _ _ _ _ _ _ _ _ _ _ _ _ _ _ _ _ _ _ _ _ ?sd ?ss ?s1 ?s2 ?s3 ?s4 ?s5 ?s6 ?s7 ?s8 ?s9 ?s10) ?zB ?zF ?zX ?zN ?zP ?zA ?zR ?zT ?zk ?zd ?zu (sent_ret ?_)); top_raise; (case zP => ktr_rel); (case sd => assumption); (case ss => ((try simp only [List.length_map]); omega)); (case s1 | s2 | s3 | s4 | s5 | s6 | s7 | s8 | s9 | s10 => k_ne); top_raiseB; intro pa' pd' k0' k1' k2' k3' k4' k5' od' h' tk' hd' hl' hm' hA1 hA2 F' N'; top_strB) | (k_here; (show wpAny _ _ (call (Value.ref 344) _) _ _ _); k_dflt (refine' Spec.useG (spec_draw _ _ _ _ _ _ _ _ _ _ _ _ ?dhi ?dhl ?dp0 ?dp1 ?dp2 ?dp3 ?dm0 ?dm1) ?zB ?zF ?zX ?zN ?zP ?zA ?zR ?zT ?zk ?zd ?zu ?_); top_raise; (case zP => ktr_rel); (case dhi => exact hI8); (case dhl => assumption); (case dp0 | dp1 | dp2 | dp3 | dm0 | dm1 => omega); (case zA => ktr_unf); (case zR => k_dflt (intro g1 st1 hr9; exact ⟨_, hr9 (X.asc, PySem.W.listOf ys.toArray ys.length) (by k_mem), rfl, _, rfl⟩)); top_raise0; top_args; k_dflt (obtain ⟨r', tr', p0', t0', t2', e1', hr0', hr1', hp0', hp1', e2'⟩ := P'; top_argsB)) | (k_here; (show wpAny _ _ (call (Value.builtin "list.append") [Value.ref _, _]) _ _ _); k_dflt (refine' append_K ?k1 ?k2 ?k3 ?_ ?z; (case k1 => k_asm); (case k2 => k_asm); (case k3 => k_upd); (case z => (rw [sizeLine_eq]; omega)); k_whole); intro h' F' N') | (k_here; (show wpAny _ _ (call (Value.builtin "dict.pop") [Value.ref _, Value.int _ _]) _ _ _); k_dflt (refine' kob_pop (knd := PySem.intKind _ _) (more := []) ?F ?N ?U ?d (intKind_is _ _ _ _) (.inl rfl) (by rfl) (PySem.F.args_dict_pop_2 _ _) ?l ?z ?_; (case F => k_asm); (case N => k_asm); (case U => k_updF); (case d => assumption); (case l => assumption); (case z => (rw [sizeLine_eq]; assumption))); intro h' o' F' N' hd'; (try dsimp only at N')) | (k_here; (show wpAny _ _ (compareOp CmpOp.NotIn (Value.int _ _) (Value.ref _)) _ _ _); k_dflt (refine' notin_ints ?iiN ?iim ?iii ?iib ?_; (case iiN => k_asm); (case iim => k_mem); (case iii => assumption); (case iib => assumption))) | (k_here; (show wpAny _ _ (setItem (Value.ref _) (Value.str _ _) _) _ _ _); k_dflt (refine' kda_set (knd := PySem.strKind _ _) ?F ?N ?U ?d (strKind_is _ _ _ _) ?z ?_; (case F => k_asm); (case N => k_asm); (case U => k_updF); (case d => assumption); (case z => (rw [sizeLine_eq]; exact Nat.le_of_ble_eq_true rfl))); intro h' o' F' N' hd'; (try dsimp only at N')) | (k_here; (show wpAny _ _ (subscriptTail _ _ (Value.ref _) (Value.str _ _)) _ _ _); k_dflt (refine' kda_item (knd := PySem.strKind _ _) ?N ?p ?d (strKind_is _ _ _ _) ?l ?_; (case N => k_asm); (case p => k_mem); (case d => assumption); (case l => exact rfl))) | (k_here; (show wpAny _ _ (eval (Expr.Dict [] [] _) _) _ _ _); k_dflt (refine' newDict_K ?ndF ?ndN ?ndB ?_; (case ndF => k_asm); (case ndN => k_asm); (case ndB => exact Top.nolimit (by k_asm))); intro d' h' o' F' N' l1 lo' hs' fs' hi' fi'; (try k_lt l1)) | (k_here; (show wpAny _ _ (callWith _ (Value.ref _) _ _ _) _ _ _); k_dflt (refine' callWith_K0 ?cw1 ?cw2 ?_; (case cw1 => (refine' Frag.In.keeps ?ci1 ?ci2; (case ci1 => k_asm); (case ci2 => (refine' Fr.keep ?ci3; (case ci3 => k_asm))))); (case cw2 => k_is); k_whole))) | walk1 | dsimp only | (leave1; try dsimp only) | fail "no step"))
      all_goals (try dsimp only)
      refine' Spec.use2 (spec_law_is_kept _ X a3 nw3 h9 hL3 hO3) [(I, oI), (X.asc, PySem.W.listOf ys.toArray ys.length)] ?zB ?zF ?zX ?zN ?zs ?zr ?zA ?zR ?zT ?zk ?zd ?zu ?_
      case zB => k_asm
      case zF => k_asm
      case zX => k_asm
      case zN => k_asm
      case zT => k_asm
      case zk => first | exact rfl | assumption
      case zd => ktr_room
      case zu => ktr_units
      case zs => exact fun p hp => List.mem_append_left _ hp
      case zr => exact fun p hp => List.mem_append_right _ hp
      case zA => exact apart2 g1 g2
      case zR => exact fun _ _ _ => trivial
      intro v' nw4 h' tk' F' N' A' P'
      refine gen_P fun G9 kG9 => ?_
      obtain ⟨e4, hL4⟩ := P'
      subst e4
      refine kG9 ?_
      clear kG9
      have g3 : ∀ q ∈ nw4, q.1 ≠ I := fun q hq => (A' q hq _ (.head _)).symm
      have g4 : ∀ q ∈ nw4, q.1 ≠ X.asc := fun q hq => (A' q hq _ (.tail _ (.head _))).symm
      clear A'
      (repeat' (first | (k_unfold; (try dsimp only)) | (k_end; wrow_close) | (with_reducible first | (k_here; (show wpAny _ _ (call (Value.ref 148) _) _ _ _); k_dflt (refine' call_cls ?q1 ?q2 ?q3 ?q4 ?q5 ?q6 ?_; (case q1 => k_asm); (case q2 => k_asm); (case q3 => k_asm); (case q4 | q5 | q6 => k_is); k_whole); intro x' d' h' F' N' l1 l2; (try k_lt2 l2); (try k_sweep); k_dflt (refine' SpecI.useG (spec_ctl_init _ _ _ _ ?sne) ?zB ?zF ?zX ?zN ?zP ?zA ?zT ?zk ?zd ?zu ?_); top_raise; (case zP => ktr_rel); (case sne => k_ne); (case zA => ktr_unf); top_raise0; intro v' p' h' tk' F' N' A' P'; k_dflt (intro G9 kG9; cases P'; refine kG9 ?_; clear kG9; refine ⟨rfl, ?_⟩); clear A'; top_strB) | (k_here; (show wpAny _ _ (call (Value.ref 333) _) _ _ _); k_dflt (refine' call_cls ?q1 ?q2 ?q3 ?q4 ?q5 ?q6 ?_; (case q1 => k_asm); (case q2 => k_asm); (case q3 => k_asm); (case q4 | q5 | q6 => k_is); k_whole); intro x' d' h' F' N' l1 l2; (try k_lt2 l2); (try k_sweep); k_dflt (refine' SpecI.useG (spec_space_init _ _ _ _ _ ?sne) ?zB ?zF ?zX ?zN ?zP ?zA ?zT ?zk ?zd ?zu ?_); top_raise; (case zP => ktr_rel); (case sne => k_ne); (case zA => ktr_unf); top_raise0; intro v' p' h' tk' F' N' A' P'; k_dflt (intro G9 kG9; cases P'; refine kG9 ?_; clear kG9; refine ⟨rfl, ?_⟩); k_dflt (have hA3 := apart_mem A' (List.Mem.tail _ (List.Mem.tail _ (List.Mem.head _)))); clear A'; top_strB) | (k_here; (show wpAny _ _ (call (Value.ref 110) _) _ _ _); k_dflt (refine' Spec.useG (spec_discarded _ _ _ _ _ _ _ _ _ _ _ _ _ ?ch) ?zB ?zF ?zX ?zN ?zP ?zA ?zR ?zT ?zk ?zd ?zu ?_); top_raise; (case zP => ktr_rel); (case ch => k_ne); top_raiseB; top_args; k_dflt (obtain ⟨t1', e1', e2'⟩ := P'; top_argsB)) | (k_here; (show wpAny _ _ (call (Value.ref 103) _) _ _ _); k_dflt (refine' Spec.useG (spec_ctl_sent _ _ _ _ _ _ _ _ _ _ _ _ _ ?ch) ?zB ?zF ?zX ?zN ?zP ?zA ?zR ?zT ?zk ?zd ?zu ?_); top_raise; (case zP => ktr_rel); (case ch => k_ne); top_raiseB; top_args; k_dflt (obtain ⟨t1', e1', e2'⟩ := P'; top_argsB)) | (k_here; (show wpAny _ _ (call (Value.ref 264) _) _ _ _); k_dflt (refine' Spec.useG (spec_take_number _ _ _ _ _ _ _ _ _ _ _ _ _ _ _ _ _ _ _ _ _ ?th) ?zB ?zF ?zX ?zN ?zP ?zA ?zR ?zT ?zk ?zd ?zu ?_); top_raise; (case zP => ktr_rel); (case th => k_ne); top_raiseB; top_args; k_dflt (obtain ⟨t1', t2', e1', e2'⟩ := P'; top_argsB)) | (k_here; (show wpAny _ _ (call (Value.ref 330) _) _ _ _); k_dflt (refine' Spec.useG (spec_forget _ _ _ _ _ _ _ _ _ _ _ _ _ _ _ _ _ _ _ _ _ _ ?fD ?flo ?fs ?f1 ?f2 ?f5) ?zB ?zF ?zX ?zN ?zP ?zA ?zR ?zT ?zk ?zd ?zu ?_); top_raise; (case zP => ktr_rel); (case fD | flo => assumption); (case fs => omega); (case f1 | f2 | f5 => k_ne); (case zA => ktr_unf); (case zR => k_dflt (intro g1 _ hr9; exact fun p hp => PkIn.at (hP7 p hp) fun x hx => hr9 x (by (repeat (first | exact hx | refine List.Mem.tail _ ?_))))); top_raise0; top_args; k_dflt (obtain ⟨tt', e1', e2'⟩ := P'; top_argsB)) | (k_here; (show wpAny _ _ (call (Value.ref 117) _) _ _ _); k_dflt (refine' Spec.useG (spec_acked _ _ _ _ _ _ _ _ _ _ _ _ _ _ _ _ _ _ _ _ ?kth ?krc ?kne ?kW ?kW2 ?kz ?kz2 ?kc ?kc2) ?zB ?zF ?zX ?zN ?zP ?zA ?zR ?zT ?zk ?zd ?zu ?_); top_raise; (case zP => ktr_rel); (case kth | krc => assumption); (case kne => k_ne); (case kW | kW2 | kz | kz2 | kc | kc2 => omega); top_raiseB; top_args; k_dflt (obtain ⟨Wd', cr', ta', tb', tc'', e1', hW1', hW2', hc1', hc2', e2'⟩ := P'; top_argsB)) | (k_here; (show wpAny _ _ (call (Value.ref 304) _) _ _ _); k_dflt (refine' Spec.useG (spec_note_largest _ _ _ _ _ _ _ _ _ _ _ _ _ _ _ _ _ _ _ _ _ _ ?nla ?nlh) ?zB ?zF ?zX ?zN ?zP ?zA ?zR ?zT ?zk ?zd ?zu ?_); top_raise; (case zP => ktr_rel); (case nla => assumption); (case nlh => k_ne); top_raiseB; top_args; k_dflt (obtain ⟨l9, t9, e1', hl9a, hl9b, e2'⟩ := P'; top_argsB)) | (k_here; (show wpAny _ _ (call (Value.ref 271) _) _ _ _); k_dflt (refine' Spec.use (spec_sp_sent _ _ _ _ _ _ _ _ _ _ _ _ _ _ _ _ _ _ _ _ _ _ _ _ _ _ _ _ _ _ _ _ ?sd ?ss ?s1 ?s2 ?s3 ?s4 ?s5 ?s6 ?s7 ?s8 ?s9 ?s10) ?zB ?zF ?zX ?zN ?zP ?zA ?zR ?zT ?zk ?zd ?zu (sent_ret ?_)); top_raise; (case zP => ktr_rel); (case sd => assumption); (case ss => ((try simp only [List.length_map]); omega)); (case s1 | s2 | s3 | s4 | s5 | s6 | s7 | s8 | s9 | s10 => k_ne); top_raiseB; intro pa' pd' k0' k1' k2' k3' k4' k5' od' h' tk' hd' hl' hm' hA1 hA2 F' N'; top_strB) | (k_here; (show wpAny _ _ (call (Value.ref 344) _) _ _ _); k_dflt (refine' Spec.useG (spec_draw _ _ _ _ _ _ _ _ _ _ _ _ ?dhi ?dhl ?dp0 ?dp1 ?dp2 ?dp3 ?dm0 ?dm1) ?zB ?zF ?zX ?zN ?zP ?zA ?zR ?zT ?zk ?zd ?zu ?_); top_raise; (case zP => ktr_rel); (case dhi => exact hI8); (case dhl => assumption); (case dp0 | dp1 | dp2 | dp3 | dm0 | dm1 => omega); (case zA => ktr_unf); (case zR => k_dflt (intro g1 st1 hr9; exact ⟨_, hr9 (X.asc, PySem.W.listOf ys.toArray ys.length) (by k_mem), rfl, _, rfl⟩)); top_raise0; top_args; k_dflt (obtain ⟨r', tr', p0', t0', t2', e1', hr0', hr1', hp0', hp1', e2'⟩ := P'; top_argsB)) | (k_here; (show wpAny _ _ (call (Value.builtin "list.append") [Value.ref _, _]) _ _ _); k_dflt (refine' append_K ?k1 ?k2 ?k3 ?_ ?z; (case k1 => k_asm); (case k2 => k_asm); (case k3 => k_upd); (case z => (rw [sizeLine_eq]; omega)); k_whole); intro h' F' N') | (k_here; (show wpAny _ _ (call (Value.builtin "dict.pop") [Value.ref _, Value.int _ _]) _ _ _); k_dflt (refine' kob_pop (knd := PySem.intKind _ _) (more := []) ?F ?N ?U ?d (intKind_is _ _ _ _) (.inl rfl) (by rfl) (PySem.F.args_dict_pop_2 _ _) ?l ?z ?_; (case F => k_asm); (case N => k_asm); (case U => k_updF); (case d => assumption); (case l => assumption); (case z => (rw [sizeLine_eq]; assumption))); intro h' o' F' N' hd'; (try dsimp only at N')) | (k_here; (show wpAny _ _ (compareOp CmpOp.NotIn (Value.int _ _) (Value.ref _)) _ _ _); k_dflt (refine' notin_ints ?iiN ?iim ?iii ?iib ?_; (case iiN => k_asm); (case iim => k_mem); (case iii => assumption); (case iib => assumption))) | (k_here; (show wpAny _ _ (setItem (Value.ref _) (Value.str _ _) _) _ _ _); k_dflt (refine' kda_set (knd := PySem.strKind _ _) ?F ?N ?U ?d (strKind_is _ _ _ _) ?z ?_; (case F => k_asm); (case N => k_asm); (case U => k_updF); (case d => assumption); (case z => (rw [sizeLine_eq]; exact Nat.le_of_ble_eq_true rfl))); intro h' o' F' N' hd'; (try dsimp only at N')) | (k_here; (show wpAny _ _ (subscriptTail _ _ (Value.ref _) (Value.str _ _)) _ _ _); k_dflt (refine' kda_item (knd := PySem.strKind _ _) ?N ?p ?d (strKind_is _ _ _ _) ?l ?_; (case N => k_asm); (case p => k_mem); (case d => assumption); (case l => exact rfl))) | (k_here; (show wpAny _ _ (eval (Expr.Dict [] [] _) _) _ _ _); k_dflt (refine' newDict_K ?ndF ?ndN ?ndB ?_; (case ndF => k_asm); (case ndN => k_asm); (case ndB => exact Top.nolimit (by k_asm))); intro d' h' o' F' N' l1 lo' hs' fs' hi' fi'; (try k_lt l1)) | (k_here; (show wpAny _ _ (callWith _ (Value.ref _) _ _ _) _ _ _); k_dflt (refine' callWith_K0 ?cw1 ?cw2 ?_; (case cw1 => (refine' Frag.In.keeps ?ci1 ?ci2; (case ci1 => k_asm); (case ci2 => (refine' Fr.keep ?ci3; (case ci3 => k_asm))))); (case cw2 => k_is); k_whole))) | walk1 | dsimp only | (leave1; try dsimp only) | fail "no step"))
      all_goals (try dsimp only)
      exact ForEnd.of (nw := (X.asc, PySem.W.listOf ys.toArray ys.length) :: nw4) (by k_asm) (by k_asm) ⟨⟨a3, nw4, rfl, hL4, hO3, by omega, by omega, g4⟩,
        (by intro y hy; simp only [List.mem_cons, List.not_mem_nil, or_false, not_or] at hy; obtain ⟨y1, y2, y3⟩ := hy; simp only [y1, y2, y3, if_false, tmp])⟩ (List.mem_append_right _ (.head _))
        (sub_cons (List.mem_append_right _ (.tail _ (.head _))) fun p hp => List.mem_append_left _ hp) (all_cons.mpr ⟨nI, g3⟩) sub_nil
  case done =>
    intro h' tk m' nw0 F N hJ
    refine gen_P fun G9 kG9 => ?_
    obtain ⟨a, nw, rfl, hL, hO, hN, hdr, hasc⟩ := hJ
    dsimp only [envOf] at F N
    have hN57 : a.N ≤ 57 := by omega
    obtain ⟨p0, t0, t2, tn, ow, Rw, ⟨hp0, hp1⟩, hW, hsub, ra, rb, hclose⟩ := lay_open h9 hL
    refine kG9 ?_
    clear kG9
    have hdr0 := hO.dr
    have nAp : X.ap ≠ X.aw := nine_ab h9
    have N1 := News.sub (l' := (X.ap, PySem.W.listOf #[.int p0 t0, .ref X.asc, .int a.dr t2] X.c) :: (X.aw, ow) :: Rw) N fun p hp => .tail _ (hsub p hp)
    clear N hsub hasc hdr hN
    (repeat' (first | (k_unfold; (try dsimp only)) | (k_end; wrow_close) | (with_reducible first | (k_here; (show wpAny _ _ (call (Value.ref 148) _) _ _ _); k_dflt (refine' call_cls ?q1 ?q2 ?q3 ?q4 ?q5 ?q6 ?_; (case q1 => k_asm); (case q2 => k_asm); (case q3 => k_asm); (case q4 | q5 | q6 => k_is); k_whole); intro x' d' h' F' N' l1 l2; (try k_lt2 l2); (try k_sweep); k_dflt (refine' SpecI.useG (spec_ctl_init _ _ _ _ ?sne) ?zB ?zF ?zX ?zN ?zP ?zA ?zT ?zk ?zd ?zu ?_); top_raise; (case zP => ktr_rel); (case sne => k_ne); (case zA => ktr_unf); top_raise0; intro v' p' h' tk' F' N' A' P'; k_dflt (intro G9 kG9; cases P'; refine kG9 ?_; clear kG9; refine ⟨rfl, ?_⟩); clear A'; top_strB) | (k_here; (show wpAny _ _ (call (Value.ref 333) _) _ _ _); k_dflt (refine' call_cls ?q1 ?q2 ?q3 ?q4 ?q5 ?q6 ?_; (case q1 => k_asm); (case q2 => k_asm); (case q3 => k_asm); (case q4 | q5 | q6 => k_is); k_whole); intro x' d' h' F' N' l1 l2; (try k_lt2 l2); (try k_sweep); k_dflt (refine' SpecI.useG (spec_space_init _ _ _ _ _ ?sne) ?zB ?zF ?zX ?zN ?zP ?zA ?zT ?zk ?zd ?zu ?_); top_raise; (case zP => ktr_rel); (case sne => k_ne); (case zA => ktr_unf); top_raise0; intro v' p' h' tk' F' N' A' P'; k_dflt (intro G9 kG9; cases P'; refine kG9 ?_; clear kG9; refine ⟨rfl, ?_⟩); k_dflt (have hA3 := apart_mem A' (List.Mem.tail _ (List.Mem.tail _ (List.Mem.head _)))); clear A'; top_strB) | (k_here; (show wpAny _ _ (call (Value.ref 110) _) _ _ _); k_dflt (refine' Spec.useG (spec_discarded _ _ _ _ _ _ _ _ _ _ _ _ _ ?ch) ?zB ?zF ?zX ?zN ?zP ?zA ?zR ?zT ?zk ?zd ?zu ?_); top_raise; (case zP => ktr_rel); (case ch => k_ne); top_raiseB; top_args; k_dflt (obtain ⟨t1', e1', e2'⟩ := P'; top_argsB)) | (k_here; (show wpAny _ _ (call (Value.ref 103) _) _ _ _); k_dflt (refine' Spec.useG (spec_ctl_sent _ _ _ _ _ _ _ _ _ _ _ _ _ ?ch) ?zB ?zF ?zX ?zN ?zP ?zA ?zR ?zT ?zk ?zd ?zu ?_); top_raise; (case zP => ktr_rel); (case ch => k_ne); top_raiseB; top_args; k_dflt (obtain ⟨t1', e1', e2'⟩ := P'; top_argsB)) | (k_here; (show wpAny _ _ (call (Value.ref 264) _) _ _ _); k_dflt (refine' Spec.useG (spec_take_number _ _ _ _ _ _ _ _ _ _ _ _ _ _ _ _ _ _ _ _ _ ?th) ?zB ?zF ?zX ?zN ?zP ?zA ?zR ?zT ?zk ?zd ?zu ?_); top_raise; (case zP => ktr_rel); (case th => k_ne); top_raiseB; top_args; k_dflt (obtain ⟨t1', t2', e1', e2'⟩ := P'; top_argsB)) | (k_here; (show wpAny _ _ (call (Value.ref 330) _) _ _ _); k_dflt (refine' Spec.useG (spec_forget _ _ _ _ _ _ _ _ _ _ _ _ _ _ _ _ _ _ _ _ _ _ ?fD ?flo ?fs ?f1 ?f2 ?f5) ?zB ?zF ?zX ?zN ?zP ?zA ?zR ?zT ?zk ?zd ?zu ?_); top_raise; (case zP => ktr_rel); (case fD | flo => assumption); (case fs => omega); (case f1 | f2 | f5 => k_ne); (case zA => ktr_unf); (case zR => k_dflt (intro g1 _ hr9; exact fun p hp => PkIn.at (hP7 p hp) fun x hx => hr9 x (by (repeat (first | exact hx | refine List.Mem.tail _ ?_))))); top_raise0; top_args; k_dflt (obtain ⟨tt', e1', e2'⟩ := P'; top_argsB)) | (k_here; (show wpAny _ _ (call (Value.ref 117) _) _ _ _); k_dflt (refine' Spec.useG (spec_acked _ _ _ _ _ _ _ _ _ _ _ _ _ _ _ _ _ _ _ _ ?kth ?krc ?kne ?kW ?kW2 ?kz ?kz2 ?kc ?kc2) ?zB ?zF ?zX ?zN ?zP ?zA ?zR ?zT ?zk ?zd ?zu ?_); top_raise; (case zP => ktr_rel); (case kth | krc => assumption); (case kne => k_ne); (case kW | kW2 | kz | kz2 | kc | kc2 => omega); top_raiseB; top_args; k_dflt (obtain ⟨Wd', cr', ta', tb', tc'', e1', hW1', hW2', hc1', hc2', e2'⟩ := P'; top_argsB)) | (k_here; (show wpAny _ _ (call (Value.ref 304) _) _ _ _); k_dflt (refine' Spec.useG (spec_note_largest _ _ _ _ _ _ _ _ _ _ _ _ _ _ _ _ _ _ _ _ _ _ ?nla ?nlh) ?zB ?zF ?zX ?zN ?zP ?zA ?zR ?zT ?zk ?zd ?zu ?_); top_raise; (case zP => ktr_rel); (case nla => assumption); (case nlh => k_ne); top_raiseB; top_args; k_dflt (obtain ⟨l9, t9, e1', hl9a, hl9b, e2'⟩ := P'; top_argsB)) | (k_here; (show wpAny _ _ (call (Value.ref 271) _) _ _ _); k_dflt (refine' Spec.use (spec_sp_sent _ _ _ _ _ _ _ _ _ _ _ _ _ _ _ _ _ _ _ _ _ _ _ _ _ _ _ _ _ _ _ _ ?sd ?ss ?s1 ?s2 ?s3 ?s4 ?s5 ?s6 ?s7 ?s8 ?s9 ?s10) ?zB ?zF ?zX ?zN ?zP ?zA ?zR ?zT ?zk ?zd ?zu (sent_ret ?_)); top_raise; (case zP => ktr_rel); (case sd => assumption); (case ss => ((try simp only [List.length_map]); omega)); (case s1 | s2 | s3 | s4 | s5 | s6 | s7 | s8 | s9 | s10 => k_ne); top_raiseB; intro pa' pd' k0' k1' k2' k3' k4' k5' od' h' tk' hd' hl' hm' hA1 hA2 F' N'; top_strB) | (k_here; (show wpAny _ _ (call (Value.ref 344) _) _ _ _); k_dflt (refine' Spec.useG (spec_draw _ _ _ _ _ _ _ _ _ _ _ _ ?dhi ?dhl ?dp0 ?dp1 ?dp2 ?dp3 ?dm0 ?dm1) ?zB ?zF ?zX ?zN ?zP ?zA ?zR ?zT ?zk ?zd ?zu ?_); top_raise; (case zP => ktr_rel); (case dhi => exact hI8); (case dhl => assumption); (case dp0 | dp1 | dp2 | dp3 | dm0 | dm1 => omega); (case zA => ktr_unf); (case zR => k_dflt (intro g1 st1 hr9; exact ⟨_, hr9 (X.asc, PySem.W.listOf ys.toArray ys.length) (by k_mem), rfl, _, rfl⟩)); top_raise0; top_args; k_dflt (obtain ⟨r', tr', p0', t0', t2', e1', hr0', hr1', hp0', hp1', e2'⟩ := P'; top_argsB)) | (k_here; (show wpAny _ _ (call (Value.builtin "list.append") [Value.ref _, _]) _ _ _); k_dflt (refine' append_K ?k1 ?k2 ?k3 ?_ ?z; (case k1 => k_asm); (case k2 => k_asm); (case k3 => k_upd); (case z => (rw [sizeLine_eq]; omega)); k_whole); intro h' F' N') | (k_here; (show wpAny _ _ (call (Value.builtin "dict.pop") [Value.ref _, Value.int _ _]) _ _ _); k_dflt (refine' kob_pop (knd := PySem.intKind _ _) (more := []) ?F ?N ?U ?d (intKind_is _ _ _ _) (.inl rfl) (by rfl) (PySem.F.args_dict_pop_2 _ _) ?l ?z ?_; (case F => k_asm); (case N => k_asm); (case U => k_updF); (case d => assumption); (case l => assumption); (case z => (rw [sizeLine_eq]; assumption))); intro h' o' F' N' hd'; (try dsimp only at N')) | (k_here; (show wpAny _ _ (compareOp CmpOp.NotIn (Value.int _ _) (Value.ref _)) _ _ _); k_dflt (refine' notin_ints ?iiN ?iim ?iii ?iib ?_; (case iiN => k_asm); (case iim => k_mem); (case iii => assumption); (case iib => assumption))) | (k_here; (show wpAny _ _ (setItem (Value.ref _) (Value.str _ _) _) _ _ _); k_dflt (refine' kda_set (knd := PySem.strKind _ _) ?F ?N ?U ?d (strKind_is _ _ _ _) ?z ?_; (case F => k_asm); (case N => k_asm); (case U => k_updF); (case d => assumption); (case z => (rw [sizeLine_eq]; exact Nat.le_of_ble_eq_true rfl))); intro h' o' F' N' hd'; (try dsimp only at N')) | (k_here; (show wpAny _ _ (subscriptTail _ _ (Value.ref _) (Value.str _ _)) _ _ _); k_dflt (refine' kda_item (knd := PySem.strKind _ _) ?N ?p ?d (strKind_is _ _ _ _) ?l ?_; (case N => k_asm); (case p => k_mem); (case d => assumption); (case l => exact rfl))) | (k_here; (show wpAny _ _ (eval (Expr.Dict [] [] _) _) _ _ _); k_dflt (refine' newDict_K ?ndF ?ndN ?ndB ?_; (case ndF => k_asm); (case ndN => k_asm); (case ndB => exact Top.nolimit (by k_asm))); intro d' h' o' F' N' l1 lo' hs' fs' hi' fi'; (try k_lt l1)) | (k_here; (show wpAny _ _ (callWith _ (Value.ref _) _ _ _) _ _ _); k_dflt (refine' callWith_K0 ?cw1 ?cw2 ?_; (case cw1 => (refine' Frag.In.keeps ?ci1 ?ci2; (case ci1 => k_asm); (case ci2 => (refine' Fr.keep ?ci3; (case ci3 => k_asm))))); (case cw2 => k_is); k_whole))) | walk1 | dsimp only | (leave1; try dsimp only) | fail "no step"))
    all_goals (try dsimp only)
    rename Obj.IsDictOf _ _ (stored _ _ _) => hW3
    rw [stored_now] at hW3
    refine gen_P fun G9 kG9 => ?_
    obtain ⟨nw2, hL2, hs2⟩ := hclose p0 t0 t2 _ _ a.dr _ ⟨hp0, hp1⟩ hW3
    refine kG9 ?_
    clear kG9
    have hO2 := hO.setnow (dr := a.dr) (now := a.now + 100) hdr0
    have N2 := News.sub (l' := nw2) (by k_asm) fun p hp => (sub_cons (by k_mem) (sub_cons (by k_mem) (by tb_rel))) p (hs2 p hp)
    rename IsRange _ _ 0 4 _ _ _ _ => hra2
    clear hclose hs2 hW hW3 ra rb hL
    refine for_range' (n := 4) rfl (by k_asm) N2 hra2 (by decide) (by decide) [Str.ofString "turn", Str.ofString "number"] (by decide)
      (fun i m₁ nw => ∃ b, Lay ww X b nw ∧ Ok b ∧ b.N = a.N + i ∧ ∀ j : Nat, a.N ≤ j → j < b.N → (j : Int) ∈ b.ps.map (·.n)) ⟨_, hL2, hO2, rfl, fun j h1 h2 => absurd h2 (Nat.not_lt.mpr h1)⟩ ?step4 ?done4
    case step4 =>
      intro i t m₁ nw I oI h tk hin hJ hnI F N
      refine gen_P fun G9 kG9 => ?_
      obtain ⟨b, hL, hO', hN', hin'⟩ := hJ
      refine kG9 ?_
      clear kG9
      dsimp only [envOf] at F N
      refine gen_P fun G9 kG9 => ?_
      refine Lay.elim hL fun p0 t0 t2 tN le tW tf tc th rcv tn ow ost oou ens ke R hp0 hp0' hth hrc hla hW hS hU hE hP r1 r2 r3 r4 r5 r6 r7 r8 r9 enw => ?_
      clear hL
      cases enw
      refine kG9 ?_
      clear kG9
      refine gen_P fun G9 kG9 => ?_
      refine Nine.elim h9 fun h01 h02 h03 h04 h05 h06 h07 h08 h12 h13 h14 h15 h16 h17 h18 h23 h24 h25 h26 h27 h28 h34 h35 h36 h37 h38 h45 h46 h47 h48 h56 h57 h58 h67 h68 h78 hasm hlsm hosm => ?_
      refine kG9 ?_
      clear kG9
      dsimp only [mains, List.cons_append, List.nil_append] at N hnI
      refine gen_P fun G9 kG9 => ?_
      refine off10 hnI fun n1 n2 n3 n4 n5 n6 n7 n8 n9 n10 => ?_
      refine kG9 ?_
      clear kG9
      have hlp : b.ps.length ≤ 61 := by have := hO'.len; have := hO'.N; omega
      have hlq : b.qs.length ≤ 61 := by rw [hO'.qs]; exact hlp
      (repeat' (first | (k_unfold; (try dsimp only)) | (k_end; wrow_close) | (with_reducible first | (k_here; (show wpAny _ _ (call (Value.ref 148) _) _ _ _); k_dflt (refine' call_cls ?q1 ?q2 ?q3 ?q4 ?q5 ?q6 ?_; (case q1 => k_asm); (case q2 => k_asm); (case q3 => k_asm); (case q4 | q5 | q6 => k_is); k_whole); intro x' d' h' F' N' l1 l2; (try k_lt2 l2); (try k_sweep); k_dflt (refine' SpecI.useG (spec_ctl_init _ _ _ _ ?sne) ?zB ?zF ?zX ?zN ?zP ?zA ?zT ?zk ?zd ?zu ?_); top_raise; (case zP => ktr_rel); (case sne => k_ne); (case zA => ktr_unf); top_raise0; intro v' p' h' tk' F' N' A' P'; k_dflt (intro G9 kG9; cases P'; refine kG9 ?_; clear kG9; refine ⟨rfl, ?_⟩); clear A'; top_strB) | (k_here; (show wpAny _ _ (call (Value.ref 333) _) _ _ _); k_dflt (refine' call_cls ?q1 ?q2 ?q3 ?q4 ?q5 ?q6 ?_; (case q1 => k_asm); (case q2 => k_asm); (case q3 => k_asm); (case q4 | q5 | q6 => k_is); k_whole); intro x' d' h' F' N' l1 l2; (try k_lt2 l2); (try k_sweep); k_dflt (refine' SpecI.useG (spec_space_init _ _ _ _ _ ?sne) ?zB ?zF ?zX ?zN ?zP ?zA ?zT ?zk ?zd ?zu ?_); top_raise; (case zP => ktr_rel); (case sne => k_ne); (case zA => ktr_unf); top_raise0; intro v' p' h' tk' F' N' A' P'; k_dflt (intro G9 kG9; cases P'; refine kG9 ?_; clear kG9; refine ⟨rfl, ?_⟩); k_dflt (have hA3 := apart_mem A' (List.Mem.tail _ (List.Mem.tail _ (List.Mem.head _)))); clear A'; top_strB) | (k_here; (show wpAny _ _ (call (Value.ref 110) _) _ _ _); k_dflt (refine' Spec.useG (spec_discarded _ _ _ _ _ _ _ _ _ _ _ _ _ ?ch) ?zB ?zF ?zX ?zN ?zP ?zA ?zR ?zT ?zk ?zd ?zu ?_); top_raise; (case zP => ktr_rel); (case ch => k_ne); top_raiseB; top_args; k_dflt (obtain ⟨t1', e1', e2'⟩ := P'; top_argsB)) | (k_here; (show wpAny _ _ (call (Value.ref 103) _) _ _ _); k_dflt (refine' Spec.useG (spec_ctl_sent _ _ _ _ _ _ _ _ _ _ _ _ _ ?ch) ?zB ?zF ?zX ?zN ?zP ?zA ?zR ?zT ?zk ?zd ?zu ?_); top_raise; (case zP => ktr_rel); (case ch => k_ne); top_raiseB; top_args; k_dflt (obtain ⟨t1', e1', e2'⟩ := P'; top_argsB)) | (k_here; (show wpAny _ _ (call (Value.ref 264) _) _ _ _); k_dflt (refine' Spec.useG (spec_take_number _ _ _ _ _ _ _ _ _ _ _ _ _ _ _ _ _ _ _ _ _ ?th) ?zB ?zF ?zX ?zN ?zP ?zA ?zR ?zT ?zk ?zd ?zu ?_); top_raise; (case zP => ktr_rel); (case th => k_ne); top_raiseB; top_args; k_dflt (obtain ⟨t1', t2', e1', e2'⟩ := P'; top_argsB)) | (k_here; (show wpAny _ _ (call (Value.ref 330) _) _ _ _); k_dflt (refine' Spec.useG (spec_forget _ _ _ _ _ _ _ _ _ _ _ _ _ _ _ _ _ _ _ _ _ _ ?fD ?flo ?fs ?f1 ?f2 ?f5) ?zB ?zF ?zX ?zN ?zP ?zA ?zR ?zT ?zk ?zd ?zu ?_); top_raise; (case zP => ktr_rel); (case fD | flo => assumption); (case fs => omega); (case f1 | f2 | f5 => k_ne); (case zA => ktr_unf); (case zR => k_dflt (intro g1 _ hr9; exact fun p hp => PkIn.at (hP7 p hp) fun x hx => hr9 x (by (repeat (first | exact hx | refine List.Mem.tail _ ?_))))); top_raise0; top_args; k_dflt (obtain ⟨tt', e1', e2'⟩ := P'; top_argsB)) | (k_here; (show wpAny _ _ (call (Value.ref 117) _) _ _ _); k_dflt (refine' Spec.useG (spec_acked _ _ _ _ _ _ _ _ _ _ _ _ _ _ _ _ _ _ _ _ ?kth ?krc ?kne ?kW ?kW2 ?kz ?kz2 ?kc ?kc2) ?zB ?zF ?zX ?zN ?zP ?zA ?zR ?zT ?zk ?zd ?zu ?_); top_raise; (case zP => ktr_rel); (case kth | krc => assumption); (case kne => k_ne); (case kW | kW2 | kz | kz2 | kc | kc2 => omega); top_raiseB; top_args; k_dflt (obtain ⟨Wd', cr', ta', tb', tc'', e1', hW1', hW2', hc1', hc2', e2'⟩ := P'; top_argsB)) | (k_here; (show wpAny _ _ (call (Value.ref 304) _) _ _ _); k_dflt (refine' Spec.useG (spec_note_largest _ _ _ _ _ _ _ _ _ _ _ _ _ _ _ _ _ _ _ _ _ _ ?nla ?nlh) ?zB ?zF ?zX ?zN ?zP ?zA ?zR ?zT ?zk ?zd ?zu ?_); top_raise; (case zP => ktr_rel); (case nla => assumption); (case nlh => k_ne); top_raiseB; top_args; k_dflt (obtain ⟨l9, t9, e1', hl9a, hl9b, e2'⟩ := P'; top_argsB)) | (k_here; (show wpAny _ _ (call (Value.ref 271) _) _ _ _); k_dflt (refine' Spec.use (spec_sp_sent _ _ _ _ _ _ _ _ _ _ _ _ _ _ _ _ _ _ _ _ _ _ _ _ _ _ _ _ _ _ _ _ ?sd ?ss ?s1 ?s2 ?s3 ?s4 ?s5 ?s6 ?s7 ?s8 ?s9 ?s10) ?zB ?zF ?zX ?zN ?zP ?zA ?zR ?zT ?zk ?zd ?zu (sent_ret ?_)); top_raise; (case zP => ktr_rel); (case sd => assumption); (case ss => ((try simp only [List.length_map]); omega)); (case s1 | s2 | s3 | s4 | s5 | s6 | s7 | s8 | s9 | s10 => k_ne); top_raiseB; intro pa' pd' k0' k1' k2' k3' k4' k5' od' h' tk' hd' hl' hm' hA1 hA2 F' N'; top_strB) | (k_here; (show wpAny _ _ (call (Value.ref 344) _) _ _ _); k_dflt (refine' Spec.useG (spec_draw _ _ _ _ _ _ _ _ _ _ _ _ ?dhi ?dhl ?dp0 ?dp1 ?dp2 ?dp3 ?dm0 ?dm1) ?zB ?zF ?zX ?zN ?zP ?zA ?zR ?zT ?zk ?zd ?zu ?_); top_raise; (case zP => ktr_rel); (case dhi => exact hI8); (case dhl => assumption); (case dp0 | dp1 | dp2 | dp3 | dm0 | dm1 => omega); (case zA => ktr_unf); (case zR => k_dflt (intro g1 st1 hr9; exact ⟨_, hr9 (X.asc, PySem.W.listOf ys.toArray ys.length) (by k_mem), rfl, _, rfl⟩)); top_raise0; top_args; k_dflt (obtain ⟨r', tr', p0', t0', t2', e1', hr0', hr1', hp0', hp1', e2'⟩ := P'; top_argsB)) | (k_here; (show wpAny _ _ (call (Value.builtin "list.append") [Value.ref _, _]) _ _ _); k_dflt (refine' append_K ?k1 ?k2 ?k3 ?_ ?z; (case k1 => k_asm); (case k2 => k_asm); (case k3 => k_upd); (case z => (rw [sizeLine_eq]; omega)); k_whole); intro h' F' N') | (k_here; (show wpAny _ _ (call (Value.builtin "dict.pop") [Value.ref _, Value.int _ _]) _ _ _); k_dflt (refine' kob_pop (knd := PySem.intKind _ _) (more := []) ?F ?N ?U ?d (intKind_is _ _ _ _) (.inl rfl) (by rfl) (PySem.F.args_dict_pop_2 _ _) ?l ?z ?_; (case F => k_asm); (case N => k_asm); (case U => k_updF); (case d => assumption); (case l => assumption); (case z => (rw [sizeLine_eq]; assumption))); intro h' o' F' N' hd'; (try dsimp only at N')) | (k_here; (show wpAny _ _ (compareOp CmpOp.NotIn (Value.int _ _) (Value.ref _)) _ _ _); k_dflt (refine' notin_ints ?iiN ?iim ?iii ?iib ?_; (case iiN => k_asm); (case iim => k_mem); (case iii => assumption); (case iib => assumption))) | (k_here; (show wpAny _ _ (setItem (Value.ref _) (Value.str _ _) _) _ _ _); k_dflt (refine' kda_set (knd := PySem.strKind _ _) ?F ?N ?U ?d (strKind_is _ _ _ _) ?z ?_; (case F => k_asm); (case N => k_asm); (case U => k_updF); (case d => assumption); (case z => (rw [sizeLine_eq]; exact Nat.le_of_ble_eq_true rfl))); intro h' o' F' N' hd'; (try dsimp only at N')) | (k_here; (show wpAny _ _ (subscriptTail _ _ (Value.ref _) (Value.str _ _)) _ _ _); k_dflt (refine' kda_item (knd := PySem.strKind _ _) ?N ?p ?d (strKind_is _ _ _ _) ?l ?_; (case N => k_asm); (case p => k_mem); (case d => assumption); (case l => exact rfl))) | (k_here; (show wpAny _ _ (eval (Expr.Dict [] [] _) _) _ _ _); k_dflt (refine' newDict_K ?ndF ?ndN ?ndB ?_; (case ndF => k_asm); (case ndN => k_asm); (case ndB => exact Top.nolimit (by k_asm))); intro d' h' o' F' N' l1 lo' hs' fs' hi' fi'; (try k_lt l1)) | (k_here; (show wpAny _ _ (callWith _ (Value.ref _) _ _ _) _ _ _); k_dflt (refine' callWith_K0 ?cw1 ?cw2 ?_; (case cw1 => (refine' Frag.In.keeps ?ci1 ?ci2; (case ci1 => k_asm); (case ci2 => (refine' Fr.keep ?ci3; (case ci3 => k_asm))))); (case cw2 => k_is); k_whole))) | walk1 | dsimp only | (leave1; try dsimp only) | fail "no step"))
      all_goals (try dsimp only)
      refine' for_lay (X := X) ?eqF ?eqN ?eqI (sends_lay (X := X) (a := b) (R := R) (pa := pa') (pd := pd') ?eqM hO' ?eq1 ?eq2 ?eq3 ?eq4 ?eq5 ?eq6 ?eq7 ?eq8 ?eq9 ?eqR ?eqa ?eqd ?equ ⟨hp0, hp0'⟩ hth hrc hla hW ?eqS ?eqU hE hP ⟨r1, r2, r3, r4, r5, r6, r7, r8, r9⟩ ?eqo1 ?eqo2 ?eqo3 rfl rfl)
        ⟨n1, n2, n3, n4, n5, n6, n7, n8, n9⟩ ?eqz ?eqP ?eqm
      case eqF => k_asm
      case eqN => k_asm
      case eqM => k_asm
      case eqI => k_mem
      case eqS => assumption
      case eqU => assumption
      case eq1 => k_mem
      case eq2 => k_mem
      case eq3 => k_mem
      case eq4 => k_mem
      case eq5 => k_mem
      case eq6 => k_mem
      case eq7 => k_mem
      case eq8 => k_mem
      case eq9 => k_mem
      case eqR => tb_rel
      case eqa => k_mem
      case eqd => k_mem
      case equ => k_mem
      case eqo1 => exact ⟨by k_ne, by k_ne, by k_ne, by k_ne, by k_ne, by k_ne, by k_ne, by k_ne, by k_ne⟩
      case eqo2 => exact ⟨by k_ne, by k_ne, by k_ne, by k_ne, by k_ne, by k_ne, by k_ne, by k_ne, by k_ne⟩
      case eqo3 => exact ⟨by k_ne, by k_ne, by k_ne, by k_ne, by k_ne, by k_ne, by k_ne, by k_ne, by k_ne⟩
      case eqz => exact all_cons.mpr ⟨by k_ne, all_cons.mpr ⟨by k_ne, all_cons.mpr ⟨by k_ne, n10⟩⟩⟩
      case eqP => exact ⟨Ok.send hO' (p := ⟨_, _, _, _, _, _⟩) rfl ⟨(by decide : (2 : Int) ≤ 10), (by decide : (10 : Int) ≤ 100)⟩ (by omega) hO'.dr, (by dsimp only; omega), fun j h1 h2 => by
          dsimp only at h2 ⊢
          rw [List.map_append]
          by_cases hj : j < b.N
          · exact List.mem_append_left _ (hin' j h1 hj)
          · obtain rfl : j = b.N := by omega
            exact List.mem_append_right _ (.head _)⟩
      case eqm => (intro y hy; simp only [List.mem_cons, List.not_mem_nil, or_false, not_or] at hy; obtain ⟨y1, y2⟩ := hy; simp only [y1, y2, if_false, tmp])
    case done4 =>
      intro h' tk m' nw F N hJ
      refine gen_P fun G9 kG9 => ?_
      obtain ⟨b, hL, hO', hN', hin'⟩ := hJ
      refine kG9 ?_
      clear kG9
      dsimp only [envOf] at F N
      refine gen_P fun G9 kG9 => ?_
      refine Lay.elim hL fun p0 t0 t2 tN le tW tf tc th rcv tn ow ost oou ens ke R hp0 hp0' hth hrc hla hW hS hU hE hP r1 r2 r3 r4 r5 r6 r7 r8 r9 enw => ?_
      clear hL
      cases enw
      refine kG9 ?_
      clear kG9
      refine gen_P fun G9 kG9 => ?_
      refine Nine.elim h9 fun h01 h02 h03 h04 h05 h06 h07 h08 h12 h13 h14 h15 h16 h17 h18 h23 h24 h25 h26 h27 h28 h34 h35 h36 h37 h38 h45 h46 h47 h48 h56 h57 h58 h67 h68 h78 hasm hlsm hosm => ?_
      refine kG9 ?_
      clear kG9
      dsimp only [mains, List.cons_append, List.nil_append] at N
      have hlp : b.ps.length ≤ 61 := by have := hO'.len; have := hO'.N; omega
      have hlast : ((b.N : Int) - 1) ∈ b.ps.map (·.n) := by
        have h1 := hin' (b.N - 1) (by omega) (by omega)
        rwa [show ((b.N - 1 : Nat) : Int) = (b.N : Int) - 1 by omega] at h1
      (repeat' (first | (k_unfold; (try dsimp only)) | (k_end; wrow_close) | (with_reducible first | (k_here; (show wpAny _ _ (call (Value.ref 148) _) _ _ _); k_dflt (refine' call_cls ?q1 ?q2 ?q3 ?q4 ?q5 ?q6 ?_; (case q1 => k_asm); (case q2 => k_asm); (case q3 => k_asm); (case q4 | q5 | q6 => k_is); k_whole); intro x' d' h' F' N' l1 l2; (try k_lt2 l2); (try k_sweep); k_dflt (refine' SpecI.useG (spec_ctl_init _ _ _ _ ?sne) ?zB ?zF ?zX ?zN ?zP ?zA ?zT ?zk ?zd ?zu ?_); top_raise; (case zP => ktr_rel); (case sne => k_ne); (case zA => ktr_unf); top_raise0; intro v' p' h' tk' F' N' A' P'; k_dflt (intro G9 kG9; cases P'; refine kG9 ?_; clear kG9; refine ⟨rfl, ?_⟩); clear A'; top_strB) | (k_here; (show wpAny _ _ (call (Value.ref 333) _) _ _ _); k_dflt (refine' call_cls ?q1 ?q2 ?q3 ?q4 ?q5 ?q6 ?_; (case q1 => k_asm); (case q2 => k_asm); (case q3 => k_asm); (case q4 | q5 | q6 => k_is); k_whole); intro x' d' h' F' N' l1 l2; (try k_lt2 l2); (try k_sweep); k_dflt (refine' SpecI.useG (spec_space_init _ _ _ _ _ ?sne) ?zB ?zF ?zX ?zN ?zP ?zA ?zT ?zk ?zd ?zu ?_); top_raise; (case zP => ktr_rel); (case sne => k_ne); (case zA => ktr_unf); top_raise0; intro v' p' h' tk' F' N' A' P'; k_dflt (intro G9 kG9; cases P'; refine kG9 ?_; clear kG9; refine ⟨rfl, ?_⟩); k_dflt (have hA3 := apart_mem A' (List.Mem.tail _ (List.Mem.tail _ (List.Mem.head _)))); clear A'; top_strB) | (k_here; (show wpAny _ _ (call (Value.ref 110) _) _ _ _); k_dflt (refine' Spec.useG (spec_discarded _ _ _ _ _ _ _ _ _ _ _ _ _ ?ch) ?zB ?zF ?zX ?zN ?zP ?zA ?zR ?zT ?zk ?zd ?zu ?_); top_raise; (case zP => ktr_rel); (case ch => k_ne); top_raiseB; top_args; k_dflt (obtain ⟨t1', e1', e2'⟩ := P'; top_argsB)) | (k_here; (show wpAny _ _ (call (Value.ref 103) _) _ _ _); k_dflt (refine' Spec.useG (spec_ctl_sent _ _ _ _ _ _ _ _ _ _ _ _ _ ?ch) ?zB ?zF ?zX ?zN ?zP ?zA ?zR ?zT ?zk ?zd ?zu ?_); top_raise; (case zP => ktr_rel); (case ch => k_ne); top_raiseB; top_args; k_dflt (obtain ⟨t1', e1', e2'⟩ := P'; top_argsB)) | (k_here; (show wpAny _ _ (call (Value.ref 264) _) _ _ _); k_dflt (refine' Spec.useG (spec_take_number _ _ _ _ _ _ _ _ _ _ _ _ _ _ _ _ _ _ _ _ _ ?th) ?zB ?zF ?zX ?zN ?zP ?zA ?zR ?zT ?zk ?zd ?zu ?_); top_raise; (case zP => ktr_rel); (case th => k_ne); top_raiseB; top_args; k_dflt (obtain ⟨t1', t2', e1', e2'⟩ := P'; top_argsB)) | (k_here; (show wpAny _ _ (call (Value.ref 330) _) _ _ _); k_dflt (refine' Spec.useG (spec_forget _ _ _ _ _ _ _ _ _ _ _ _ _ _ _ _ _ _ _ _ _ _ ?fD ?flo ?fs ?f1 ?f2 ?f5) ?zB ?zF ?zX ?zN ?zP ?zA ?zR ?zT ?zk ?zd ?zu ?_); top_raise; (case zP => ktr_rel); (case fD | flo => assumption); (case fs => omega); (case f1 | f2 | f5 => k_ne); (case zA => ktr_unf); (case zR => k_dflt (intro g1 _ hr9; exact fun p hp => PkIn.at (hP7 p hp) fun x hx => hr9 x (by (repeat (first | exact hx | refine List.Mem.tail _ ?_))))); top_raise0; top_args; k_dflt (obtain ⟨tt', e1', e2'⟩ := P'; top_argsB)) | (k_here; (show wpAny _ _ (call (Value.ref 117) _) _ _ _); k_dflt (refine' Spec.useG (spec_acked _ _ _ _ _ _ _ _ _ _ _ _ _ _ _ _ _ _ _ _ ?kth ?krc ?kne ?kW ?kW2 ?kz ?kz2 ?kc ?kc2) ?zB ?zF ?zX ?zN ?zP ?zA ?zR ?zT ?zk ?zd ?zu ?_); top_raise; (case zP => ktr_rel); (case kth | krc => assumption); (case kne => k_ne); (case kW | kW2 | kz | kz2 | kc | kc2 => omega); top_raiseB; top_args; k_dflt (obtain ⟨Wd', cr', ta', tb', tc'', e1', hW1', hW2', hc1', hc2', e2'⟩ := P'; top_argsB)) | (k_here; (show wpAny _ _ (call (Value.ref 304) _) _ _ _); k_dflt (refine' Spec.useG (spec_note_largest _ _ _ _ _ _ _ _ _ _ _ _ _ _ _ _ _ _ _ _ _ _ ?nla ?nlh) ?zB ?zF ?zX ?zN ?zP ?zA ?zR ?zT ?zk ?zd ?zu ?_); top_raise; (case zP => ktr_rel); (case nla => assumption); (case nlh => k_ne); top_raiseB; top_args; k_dflt (obtain ⟨l9, t9, e1', hl9a, hl9b, e2'⟩ := P'; top_argsB)) | (k_here; (show wpAny _ _ (call (Value.ref 271) _) _ _ _); k_dflt (refine' Spec.use (spec_sp_sent _ _ _ _ _ _ _ _ _ _ _ _ _ _ _ _ _ _ _ _ _ _ _ _ _ _ _ _ _ _ _ _ ?sd ?ss ?s1 ?s2 ?s3 ?s4 ?s5 ?s6 ?s7 ?s8 ?s9 ?s10) ?zB ?zF ?zX ?zN ?zP ?zA ?zR ?zT ?zk ?zd ?zu (sent_ret ?_)); top_raise; (case zP => ktr_rel); (case sd => assumption); (case ss => ((try simp only [List.length_map]); omega)); (case s1 | s2 | s3 | s4 | s5 | s6 | s7 | s8 | s9 | s10 => k_ne); top_raiseB; intro pa' pd' k0' k1' k2' k3' k4' k5' od' h' tk' hd' hl' hm' hA1 hA2 F' N'; top_strB) | (k_here; (show wpAny _ _ (call (Value.ref 344) _) _ _ _); k_dflt (refine' Spec.useG (spec_draw _ _ _ _ _ _ _ _ _ _ _ _ ?dhi ?dhl ?dp0 ?dp1 ?dp2 ?dp3 ?dm0 ?dm1) ?zB ?zF ?zX ?zN ?zP ?zA ?zR ?zT ?zk ?zd ?zu ?_); top_raise; (case zP => ktr_rel); (case dhi => exact hI8); (case dhl => assumption); (case dp0 | dp1 | dp2 | dp3 | dm0 | dm1 => omega); (case zA => ktr_unf); (case zR => k_dflt (intro g1 st1 hr9; exact ⟨_, hr9 (X.asc, PySem.W.listOf ys.toArray ys.length) (by k_mem), rfl, _, rfl⟩)); top_raise0; top_args; k_dflt (obtain ⟨r', tr', p0', t0', t2', e1', hr0', hr1', hp0', hp1', e2'⟩ := P'; top_argsB)) | (k_here; (show wpAny _ _ (call (Value.builtin "list.append") [Value.ref _, _]) _ _ _); k_dflt (refine' append_K ?k1 ?k2 ?k3 ?_ ?z; (case k1 => k_asm); (case k2 => k_asm); (case k3 => k_upd); (case z => (rw [sizeLine_eq]; omega)); k_whole); intro h' F' N') | (k_here; (show wpAny _ _ (call (Value.builtin "dict.pop") [Value.ref _, Value.int _ _]) _ _ _); k_dflt (refine' kob_pop (knd := PySem.intKind _ _) (more := []) ?F ?N ?U ?d (intKind_is _ _ _ _) (.inl rfl) (by rfl) (PySem.F.args_dict_pop_2 _ _) ?l ?z ?_; (case F => k_asm); (case N => k_asm); (case U => k_updF); (case d => assumption); (case l => assumption); (case z => (rw [sizeLine_eq]; assumption))); intro h' o' F' N' hd'; (try dsimp only at N')) | (k_here; (show wpAny _ _ (compareOp CmpOp.NotIn (Value.int _ _) (Value.ref _)) _ _ _); k_dflt (refine' notin_ints ?iiN ?iim ?iii ?iib ?_; (case iiN => k_asm); (case iim => k_mem); (case iii => assumption); (case iib => assumption))) | (k_here; (show wpAny _ _ (setItem (Value.ref _) (Value.str _ _) _) _ _ _); k_dflt (refine' kda_set (knd := PySem.strKind _ _) ?F ?N ?U ?d (strKind_is _ _ _ _) ?z ?_; (case F => k_asm); (case N => k_asm); (case U => k_updF); (case d => assumption); (case z => (rw [sizeLine_eq]; exact Nat.le_of_ble_eq_true rfl))); intro h' o' F' N' hd'; (try dsimp only at N')) | (k_here; (show wpAny _ _ (subscriptTail _ _ (Value.ref _) (Value.str _ _)) _ _ _); k_dflt (refine' kda_item (knd := PySem.strKind _ _) ?N ?p ?d (strKind_is _ _ _ _) ?l ?_; (case N => k_asm); (case p => k_mem); (case d => assumption); (case l => exact rfl))) | (k_here; (show wpAny _ _ (eval (Expr.Dict [] [] _) _) _ _ _); k_dflt (refine' newDict_K ?ndF ?ndN ?ndB ?_; (case ndF => k_asm); (case ndN => k_asm); (case ndB => exact Top.nolimit (by k_asm))); intro d' h' o' F' N' l1 lo' hs' fs' hi' fi'; (try k_lt l1)) | (k_here; (show wpAny _ _ (callWith _ (Value.ref _) _ _ _) _ _ _); k_dflt (refine' callWith_K0 ?cw1 ?cw2 ?_; (case cw1 => (refine' Frag.In.keeps ?ci1 ?ci2; (case ci1 => k_asm); (case ci2 => (refine' Fr.keep ?ci3; (case ci3 => k_asm))))); (case cw2 => k_is); k_whole))) | walk1 | dsimp only | (leave1; try dsimp only) | fail "no step"))
      all_goals (try dsimp only)
      refine' Spec.use (spec_take _ _ _ _ _ _ _ _ _ _ _ _ _ _ _ _ _ _ _ _ _ _ _ _ _ [(b.N : Int) - 1] ?tD ?tl ?ts ?tnd ?ti ?tm ?t6 ?t1 ?t2 ?t3 ?t4 ?t5 ?t7) ?zB ?zF ?zX ?zN ?zP ?zA ?zR ?zT ?zk ?zd ?zu ?_
      case zB => k_asm
      case zF => k_asm
      case zX => k_asm
      case zN => k_asm
      case zP => ktr_rel
      case tD => assumption
      case tl => assumption
      case ts => omega
      case ti => exact .cons _ _ .nil
      case tnd => simp
      case tm => exact fun x hx => by rw [List.mem_singleton.mp hx]; exact hlast
      case t6 => simp
      case t1 => k_ne
      case t2 => k_ne
      case t3 => k_ne
      case t4 => k_ne
      case t5 => k_ne
      case t7 => k_ne
      case zA => ktr_unf
      case zR => (intro g1 _ hr9; exact fun p hp => PkIn.at (hP p (by rw [hO'.al]; exact hp)) fun x hx => hr9 x (by (repeat (first | exact hx | refine List.Mem.tail _ ?_))))
      case zT => k_asm
      case zk => first | exact rfl | assumption
      case zd => ktr_room
      case zu => ktr_units
      intro v' p' h' tk' F' N' A' P'
      refine gen_P fun G9 kG9 => ?_
      obtain ⟨lf, itf, kf, os, ns', e1', hitf, hperm, hSo, e2'⟩ := P'
      subst e1'
      subst e2'
      obtain rfl : ns' = [(b.N : Int) - 1] := List.perm_singleton.mp hperm
      obtain ⟨p, hpk, hpn⟩ : ∃ p, pksOf b.ps [(b.N : Int) - 1] = [p] ∧ p.n = (b.N : Int) - 1 := by
        have h1 := pks_map (ps := b.ps) (l := [(b.N : Int) - 1]) fun x hx => by rw [List.mem_singleton.mp hx]; exact hlast
        cases h2 : pksOf b.ps [(b.N : Int) - 1] with
        | nil => rw [h2] at h1; cases h1
        | cons p r =>
          rw [h2] at h1
          cases r with
          | nil => exact ⟨p, rfl, by simpa using h1⟩
          | cons _ _ => simp at h1
      have hpp : p ∈ b.ps := ((pks_mem hO'.nd2).mp (by rw [hpk]; exact .head _)).1
      rw [hpk] at hitf
      have q4 : X.ap ≠ lf ∧ X.aw ≠ lf ∧ X.act ≠ lf ∧ X.dct ≠ lf ∧ X.aou ≠ lf ∧ X.aen ≠ lf := ⟨A' _ (.head _) (X.ap, _) (by k_mem), A' _ (.head _) (X.aw, _) (by k_mem), A' _ (.head _) (X.act, _) (by k_mem), A' _ (.head _) (X.dct, _) (by k_mem), A' _ (.head _) (X.aou, _) (by k_mem), A' _ (.head _) (X.aen, _) (by k_mem)⟩
      obtain ⟨y1, y2, y3, y4, y5, y6⟩ := q4
      refine kG9 ?_
      clear kG9
      have hRlf : ∀ p ∈ R, p.1 ≠ lf := fun p hp => A' _ (.head _) p (by (repeat (first | exact hp | refine List.Mem.tail _ ?_)))
      clear A'
      simp only [List.cons_append, List.nil_append] at N'
      have N8 := News.sub (l' := (lf, PySem.W.listOf itf kf) :: (mains ww X ({ b with la := .int l9 t9 }) p0 t0 t2 tN le tW tf tc th rcv ow os oou ens ke ++ R)) N' (by simp only [mains, List.cons_append, List.nil_append]; tb_rel)
      have hkl : ((pksOf b.ps [(b.N : Int) - 1]).map (·.z)).sum = p.z := by rw [hpk]; simp
      have hpz := hO'.z p hpp
      have hi1 : itf.size = 1 := by rw [← Array.length_toList, hitf]; rfl
      have hWu : b.W ≤ 7100 := by have := hO'.Wu; have := sum_nonneg hO'.z; have := hO'.N; omega
      have hle : b.ends.length ≤ 61 := by have := hO'.len; have := hO'.N; omega
      have hcr0 := hO'.cr
      have hcr1 := hO'.cu
      have hW0 := hO'.W
      have hoc1 : ∀ q ∈ R, q.1 ≠ lf := hRlf
      refine for_list' (l := lf) (o := PySem.W.listOf itf kf) rfl (by k_asm) N8 (.head _) rfl rfl [Str.ofString "packet"] (by decide)
        (fun i m₁ nw => ∃ nwL W f cr, nw = (lf, PySem.W.listOf itf kf) :: nwL ∧ Lay ww X (lastA b ((b.N : Int) - 1) l9 t9 W f cr i) nwL ∧ b.W ≤ W ∧ W ≤ b.W + p.z ∧ f = b.f - p.z ∧ 0 ≤ cr ∧ cr < W)
        ⟨_, b.W, b.f - p.z, b.cr, rfl, ⟨p0, t0, t2, tN, le, tW, tf, tc, th, rcv, tn, ow, os, oou, ens, ke, R, ⟨hp0, hp0'⟩, hth, hrc, .int _ _, hW, hSo, (by show Obj.IsDictOf _ _ (outOf b.ps); rw [← hO'.qs]; exact hU), hE, hP, ⟨r1, r2, r3, r4, r5, r6, r7, r8, r9⟩, rfl⟩, Int.le_refl _, by omega, rfl, hcr0, hcr1⟩ ?step5 ?done5
      case step5 =>
        intro i v m₁ nw I oI h tk hv hJ hdm hnI F N
        refine gen_P fun G9 kG9 => ?_
        obtain ⟨nwL, W, f, cr, rfl, hL, -⟩ := hJ
        dsimp only [envOf] at F N
        have hv' : itf.toList[i]? = some v := by simpa using hv
        obtain rfl : i = 0 := by
          have := (List.getElem?_eq_some_iff.mp hv').1
          rw [Array.length_toList] at this
          omega
        rw [hitf] at hv'
        obtain rfl : v = .ref p.a := by simpa using hv'.symm
        refine kG9 ?_
        clear kG9
        dsimp only [lastA] at hL
        clear hW hS hSo hU hE hP hth hrc hla r1 r2 r3 r4 r5 r6 r7 r8 r9 N8 N' hRlf hoc1 hv hv'
        refine gen_P fun G9 kG9 => ?_
        refine Lay.elim hL fun p0 t0 t2 tN le tW tf tc th rcv tn ow ost oou ens ke R hp0 hp0' hth hrc hla hW hS hU hE hP r1 r2 r3 r4 r5 r6 r7 r8 r9 enw => ?_
        clear hL
        cases enw
        refine kG9 ?_
        clear kG9
        dsimp only at hP hU hE hS hla
        refine gen_P fun G9 kG9 => ?_
        obtain ⟨pa, ⟨k0, k1, k2, k3', k4, k5, sn, st, sz, fr, pd⟩, s1, s2, pu⟩ := hP _ (by rw [hO'.al]; exact hpp)
        have hval := value_out hO'.nd2 hpp
        rw [hpn] at hval pd
        have hz6 : (outOf b.ps).length ≤ 16777216 := by rw [List.length_map]; omega
        have hse2 : ens.size ≤ 200 := by
          have h1 := hE.length
          rw [Array.length_toList] at h1
          omega
        dsimp only [mains, List.cons_append, List.nil_append] at N hnI
        simp only [all_cons] at hnI
        obtain ⟨n0, n1, n2, n3, n4, n5, n6, n7, n8, n9, nR⟩ := hnI
        refine kG9 ?_
        clear kG9
        have x1 := r6 _ pa
        have x2 := r7 _ pa
        have x3 := r8 _ pa
        have x4 := r9 _ pa
        have x5 := r6 _ pd
        have x6 := r7 _ pd
        have x7 := r8 _ pd
        have x8 := r9 _ pd
        have x9 := r6 _ pu
        have x10 := r7 _ pu
        have x11 := r8 _ pu
        have x12 := r9 _ pu
        dsimp only at x1 x2 x3 x4 x5 x6 x7 x8 x9 x10 x11 x12
        have N9 := News.sub (l' := (p.a, instObj 204 p.d) :: (p.d, pkD ww k0 k1 k2 k3' k4 k5 (.int ((b.N : Int) - 1) sn) (.int p.t st) (.int p.z sz) fr (.bool true) (.bool true)) :: (p.u, tupO [.int p.t s1, .int p.z s2]) :: (I, oI) :: (lf, PySem.W.listOf itf kf) :: (mains ww X ({ b with la := .int l9 t9 }) p0 t0 t2 tN le tW tf tc th rcv ow ost oou ens ke ++ R)) N
          (sub_cons (by (repeat (first | exact pa | refine List.Mem.tail _ ?_))) (sub_cons (by (repeat (first | exact pd | refine List.Mem.tail _ ?_))) (sub_cons (by (repeat (first | exact pu | refine List.Mem.tail _ ?_))) (by simp only [mains, List.cons_append, List.nil_append]; tb_rel))))
        dsimp only [mains, List.cons_append, List.nil_append] at N9
        clear N pa pd pu
        (repeat' (first | (k_unfold; (try dsimp only)) | (k_end; wrow_close) | (with_reducible first | (k_here; (show wpAny _ _ (call (Value.ref 148) _) _ _ _); k_dflt (refine' call_cls ?q1 ?q2 ?q3 ?q4 ?q5 ?q6 ?_; (case q1 => k_asm); (case q2 => k_asm); (case q3 => k_asm); (case q4 | q5 | q6 => k_is); k_whole); intro x' d' h' F' N' l1 l2; (try k_lt2 l2); (try k_sweep); k_dflt (refine' SpecI.useG (spec_ctl_init _ _ _ _ ?sne) ?zB ?zF ?zX ?zN ?zP ?zA ?zT ?zk ?zd ?zu ?_); top_raise; (case zP => ktr_rel); (case sne => k_ne); (case zA => ktr_unf); top_raise0; intro v' p' h' tk' F' N' A' P'; k_dflt (intro G9 kG9; cases P'; refine kG9 ?_; clear kG9; refine ⟨rfl, ?_⟩); clear A'; top_strB) | (k_here; (show wpAny _ _ (call (Value.ref 333) _) _ _ _); k_dflt (refine' call_cls ?q1 ?q2 ?q3 ?q4 ?q5 ?q6 ?_; (case q1 => k_asm); (case q2 => k_asm); (case q3 => k_asm); (case q4 | q5 | q6 => k_is); k_whole); intro x' d' h' F' N' l1 l2; (try k_lt2 l2); (try k_sweep); k_dflt (refine' SpecI.useG (spec_space_init _ _ _ _ _ ?sne) ?zB ?zF ?zX ?zN ?zP ?zA ?zT ?zk ?zd ?zu ?_); top_raise; (case zP => ktr_rel); (case sne => k_ne); (case zA => ktr_unf); top_raise0; intro v' p' h' tk' F' N' A' P'; k_dflt (intro G9 kG9; cases P'; refine kG9 ?_; clear kG9; refine ⟨rfl, ?_⟩); k_dflt (have hA3 := apart_mem A' (List.Mem.tail _ (List.Mem.tail _ (List.Mem.head _)))); clear A'; top_strB) | (k_here; (show wpAny _ _ (call (Value.ref 110) _) _ _ _); k_dflt (refine' Spec.useG (spec_discarded _ _ _ _ _ _ _ _ _ _ _ _ _ ?ch) ?zB ?zF ?zX ?zN ?zP ?zA ?zR ?zT ?zk ?zd ?zu ?_); top_raise; (case zP => ktr_rel); (case ch => k_ne); top_raiseB; top_args; k_dflt (obtain ⟨t1', e1', e2'⟩ := P'; top_argsB)) | (k_here; (show wpAny _ _ (call (Value.ref 103) _) _ _ _); k_dflt (refine' Spec.useG (spec_ctl_sent _ _ _ _ _ _ _ _ _ _ _ _ _ ?ch) ?zB ?zF ?zX ?zN ?zP ?zA ?zR ?zT ?zk ?zd ?zu ?_); top_raise; (case zP => ktr_rel); (case ch => k_ne); top_raiseB; top_args; k_dflt (obtain ⟨t1', e1', e2'⟩ := P'; top_argsB)) | (k_here; (show wpAny _ _ (call (Value.ref 264) _) _ _ _); k_dflt (refine' Spec.useG (spec_take_number _ _ _ _ _ _ _ _ _ _ _ _ _ _ _ _ _ _ _ _ _ ?th) ?zB ?zF ?zX ?zN ?zP ?zA ?zR ?zT ?zk ?zd ?zu ?_); top_raise; (case zP => ktr_rel); (case th => k_ne); top_raiseB; top_args; k_dflt (obtain ⟨t1', t2', e1', e2'⟩ := P'; top_argsB)) | (k_here; (show wpAny _ _ (call (Value.ref 330) _) _ _ _); k_dflt (refine' Spec.useG (spec_forget _ _ _ _ _ _ _ _ _ _ _ _ _ _ _ _ _ _ _ _ _ _ ?fD ?flo ?fs ?f1 ?f2 ?f5) ?zB ?zF ?zX ?zN ?zP ?zA ?zR ?zT ?zk ?zd ?zu ?_); top_raise; (case zP => ktr_rel); (case fD | flo => assumption); (case fs => omega); (case f1 | f2 | f5 => k_ne); (case zA => ktr_unf); (case zR => k_dflt (intro g1 _ hr9; exact fun p hp => PkIn.at (hP7 p hp) fun x hx => hr9 x (by (repeat (first | exact hx | refine List.Mem.tail _ ?_))))); top_raise0; top_args; k_dflt (obtain ⟨tt', e1', e2'⟩ := P'; top_argsB)) | (k_here; (show wpAny _ _ (call (Value.ref 117) _) _ _ _); k_dflt (refine' Spec.useG (spec_acked _ _ _ _ _ _ _ _ _ _ _ _ _ _ _ _ _ _ _ _ ?kth ?krc ?kne ?kW ?kW2 ?kz ?kz2 ?kc ?kc2) ?zB ?zF ?zX ?zN ?zP ?zA ?zR ?zT ?zk ?zd ?zu ?_); top_raise; (case zP => ktr_rel); (case kth | krc => assumption); (case kne => k_ne); (case kW | kW2 | kz | kz2 | kc | kc2 => omega); top_raiseB; top_args; k_dflt (obtain ⟨Wd', cr', ta', tb', tc'', e1', hW1', hW2', hc1', hc2', e2'⟩ := P'; top_argsB)) | (k_here; (show wpAny _ _ (call (Value.ref 304) _) _ _ _); k_dflt (refine' Spec.useG (spec_note_largest _ _ _ _ _ _ _ _ _ _ _ _ _ _ _ _ _ _ _ _ _ _ ?nla ?nlh) ?zB ?zF ?zX ?zN ?zP ?zA ?zR ?zT ?zk ?zd ?zu ?_); top_raise; (case zP => ktr_rel); (case nla => assumption); (case nlh => k_ne); top_raiseB; top_args; k_dflt (obtain ⟨l9, t9, e1', hl9a, hl9b, e2'⟩ := P'; top_argsB)) | (k_here; (show wpAny _ _ (call (Value.ref 271) _) _ _ _); k_dflt (refine' Spec.use (spec_sp_sent _ _ _ _ _ _ _ _ _ _ _ _ _ _ _ _ _ _ _ _ _ _ _ _ _ _ _ _ _ _ _ _ ?sd ?ss ?s1 ?s2 ?s3 ?s4 ?s5 ?s6 ?s7 ?s8 ?s9 ?s10) ?zB ?zF ?zX ?zN ?zP ?zA ?zR ?zT ?zk ?zd ?zu (sent_ret ?_)); top_raise; (case zP => ktr_rel); (case sd => assumption); (case ss => ((try simp only [List.length_map]); omega)); (case s1 | s2 | s3 | s4 | s5 | s6 | s7 | s8 | s9 | s10 => k_ne); top_raiseB; intro pa' pd' k0' k1' k2' k3' k4' k5' od' h' tk' hd' hl' hm' hA1 hA2 F' N'; top_strB) | (k_here; (show wpAny _ _ (call (Value.ref 344) _) _ _ _); k_dflt (refine' Spec.useG (spec_draw _ _ _ _ _ _ _ _ _ _ _ _ ?dhi ?dhl ?dp0 ?dp1 ?dp2 ?dp3 ?dm0 ?dm1) ?zB ?zF ?zX ?zN ?zP ?zA ?zR ?zT ?zk ?zd ?zu ?_); top_raise; (case zP => ktr_rel); (case dhi => exact hI8); (case dhl => assumption); (case dp0 | dp1 | dp2 | dp3 | dm0 | dm1 => omega); (case zA => ktr_unf); (case zR => k_dflt (intro g1 st1 hr9; exact ⟨_, hr9 (X.asc, PySem.W.listOf ys.toArray ys.length) (by k_mem), rfl, _, rfl⟩)); top_raise0; top_args; k_dflt (obtain ⟨r', tr', p0', t0', t2', e1', hr0', hr1', hp0', hp1', e2'⟩ := P'; top_argsB)) | (k_here; (show wpAny _ _ (call (Value.builtin "list.append") [Value.ref _, _]) _ _ _); k_dflt (refine' append_K ?k1 ?k2 ?k3 ?_ ?z; (case k1 => k_asm); (case k2 => k_asm); (case k3 => k_upd); (case z => (rw [sizeLine_eq]; omega)); k_whole); intro h' F' N') | (k_here; (show wpAny _ _ (call (Value.builtin "dict.pop") [Value.ref _, Value.int _ _]) _ _ _); k_dflt (refine' kob_pop (knd := PySem.intKind _ _) (more := []) ?F ?N ?U ?d (intKind_is _ _ _ _) (.inl rfl) (by rfl) (PySem.F.args_dict_pop_2 _ _) ?l ?z ?_; (case F => k_asm); (case N => k_asm); (case U => k_updF); (case d => assumption); (case l => assumption); (case z => (rw [sizeLine_eq]; assumption))); intro h' o' F' N' hd'; (try dsimp only at N')) | (k_here; (show wpAny _ _ (compareOp CmpOp.NotIn (Value.int _ _) (Value.ref _)) _ _ _); k_dflt (refine' notin_ints ?iiN ?iim ?iii ?iib ?_; (case iiN => k_asm); (case iim => k_mem); (case iii => assumption); (case iib => assumption))) | (k_here; (show wpAny _ _ (setItem (Value.ref _) (Value.str _ _) _) _ _ _); k_dflt (refine' kda_set (knd := PySem.strKind _ _) ?F ?N ?U ?d (strKind_is _ _ _ _) ?z ?_; (case F => k_asm); (case N => k_asm); (case U => k_updF); (case d => assumption); (case z => (rw [sizeLine_eq]; exact Nat.le_of_ble_eq_true rfl))); intro h' o' F' N' hd'; (try dsimp only at N')) | (k_here; (show wpAny _ _ (subscriptTail _ _ (Value.ref _) (Value.str _ _)) _ _ _); k_dflt (refine' kda_item (knd := PySem.strKind _ _) ?N ?p ?d (strKind_is _ _ _ _) ?l ?_; (case N => k_asm); (case p => k_mem); (case d => assumption); (case l => exact rfl))) | (k_here; (show wpAny _ _ (eval (Expr.Dict [] [] _) _) _ _ _); k_dflt (refine' newDict_K ?ndF ?ndN ?ndB ?_; (case ndF => k_asm); (case ndN => k_asm); (case ndB => exact Top.nolimit (by k_asm))); intro d' h' o' F' N' l1 lo' hs' fs' hi' fi'; (try k_lt l1)) | (k_here; (show wpAny _ _ (callWith _ (Value.ref _) _ _ _) _ _ _); k_dflt (refine' callWith_K0 ?cw1 ?cw2 ?_; (case cw1 => (refine' Frag.In.keeps ?ci1 ?ci2; (case ci1 => k_asm); (case ci2 => (refine' Fr.keep ?ci3; (case ci3 => k_asm))))); (case cw2 => k_is); k_whole))) | walk1 | dsimp only | (leave1; try dsimp only) | fail "no step"))
        all_goals (try dsimp only)
        rename Obj.IsDictOf _ _ (without _ _) => hd9
        rw [without_out, keepN_one] at hd9
        refine ForEnd.of (nw := (lf, PySem.W.listOf itf kf) :: (mains ww X ({ b with la := .int l9 t9, W := Wd', f := b.f - p.z, cr := cr' }) p0 t0 t2 tN le ta' tb' tc'' th rcv ow ost _ (ens.push (.int ((b.N : Int) - 1) _)) (ke + 1) ++ R)) (by k_asm) (by k_asm) ⟨⟨_, Wd', b.f - p.z, cr', rfl, ⟨p0, t0, t2, tN, le, ta', tb', tc'', th, rcv, tn, ow, ost, _, _, ke + 1, R, ⟨hp0, hp0'⟩, hth, hrc, .int _ _, hW, hS, ?e1, ?e3, (fun q hq => hP q (by rw [hO'.al]; exact (keepN_mem.mp hq).1)), ⟨r1, r2, r3, r4, r5, r6, r7, r8, r9⟩, rfl⟩, hW1', hW2', rfl, hc1', hc2'⟩,
          (by intro y hy; simp only [List.mem_cons, List.not_mem_nil, or_false, not_or] at hy; simp only [hy, if_false, tmp])⟩ (by k_mem)
          (by simp only [mains, List.cons_append, List.nil_append]; tb_rel) (by simp only [mains, List.cons_append, List.nil_append, all_cons]; exact ⟨n0, n1, n2, n3, n4, n5, n6, n7, n8, n9, nR⟩) (sub_cons (.head _) sub_nil)
        case e1 => exact hd9
        case e3 => exact (by rw [Array.toList_push]; exact IntsAre.append hE (.cons _ _ .nil))
      case done5 =>
        intro h' tk m' nw F N hJ
        refine gen_P fun G9 kG9 => ?_
        obtain ⟨nwL, W, f, cr, rfl, hL, hW1, hW2, hf, hcr0, hcr1⟩ := hJ
        refine kG9 ?_
        clear kG9
        rw [hi1] at hL
        dsimp only [envOf] at F N
        dsimp only [lastA] at hL
        clear hW hS hSo hU hE hP hth hrc hla r1 r2 r3 r4 r5 r6 r7 r8 r9 N8 N' hRlf hoc1
        have hO5 := hO'.stop (l := [(b.N : Int) - 1]) (by simp) (fun x hx => by rw [List.mem_singleton.mp hx]; exact hlast) (List.Perm.refl _) (W := W) (f := f) (cr := cr) (la := .int l9 t9) (by omega) (by omega) hcr0 hcr1 (by omega)
        (repeat' (first | (k_unfold; (try dsimp only)) | (k_end; wrow_close) | (with_reducible first | (k_here; (show wpAny _ _ (call (Value.ref 148) _) _ _ _); k_dflt (refine' call_cls ?q1 ?q2 ?q3 ?q4 ?q5 ?q6 ?_; (case q1 => k_asm); (case q2 => k_asm); (case q3 => k_asm); (case q4 | q5 | q6 => k_is); k_whole); intro x' d' h' F' N' l1 l2; (try k_lt2 l2); (try k_sweep); k_dflt (refine' SpecI.useG (spec_ctl_init _ _ _ _ ?sne) ?zB ?zF ?zX ?zN ?zP ?zA ?zT ?zk ?zd ?zu ?_); top_raise; (case zP => ktr_rel); (case sne => k_ne); (case zA => ktr_unf); top_raise0; intro v' p' h' tk' F' N' A' P'; k_dflt (intro G9 kG9; cases P'; refine kG9 ?_; clear kG9; refine ⟨rfl, ?_⟩); clear A'; top_strB) | (k_here; (show wpAny _ _ (call (Value.ref 333) _) _ _ _); k_dflt (refine' call_cls ?q1 ?q2 ?q3 ?q4 ?q5 ?q6 ?_; (case q1 => k_asm); (case q2 => k_asm); (case q3 => k_asm); (case q4 | q5 | q6 => k_is); k_whole); intro x' d' h' F' N' l1 l2; (try k_lt2 l2); (try k_sweep); k_dflt (refine' SpecI.useG (spec_space_init _ _ _ _ _ ?sne) ?zB ?zF ?zX ?zN ?zP ?zA ?zT ?zk ?zd ?zu ?_); top_raise; (case zP => ktr_rel); (case sne => k_ne); (case zA => ktr_unf); top_raise0; intro v' p' h' tk' F' N' A' P'; k_dflt (intro G9 kG9; cases P'; refine kG9 ?_; clear kG9; refine ⟨rfl, ?_⟩); k_dflt (have hA3 := apart_mem A' (List.Mem.tail _ (List.Mem.tail _ (List.Mem.head _)))); clear A'; top_strB) | (k_here; (show wpAny _ _ (call (Value.ref 110) _) _ _ _); k_dflt (refine' Spec.useG (spec_discarded _ _ _ _ _ _ _ _ _ _ _ _ _ ?ch) ?zB ?zF ?zX ?zN ?zP ?zA ?zR ?zT ?zk ?zd ?zu ?_); top_raise; (case zP => ktr_rel); (case ch => k_ne); top_raiseB; top_args; k_dflt (obtain ⟨t1', e1', e2'⟩ := P'; top_argsB)) | (k_here; (show wpAny _ _ (call (Value.ref 103) _) _ _ _); k_dflt (refine' Spec.useG (spec_ctl_sent _ _ _ _ _ _ _ _ _ _ _ _ _ ?ch) ?zB ?zF ?zX ?zN ?zP ?zA ?zR ?zT ?zk ?zd ?zu ?_); top_raise; (case zP => ktr_rel); (case ch => k_ne); top_raiseB; top_args; k_dflt (obtain ⟨t1', e1', e2'⟩ := P'; top_argsB)) | (k_here; (show wpAny _ _ (call (Value.ref 264) _) _ _ _); k_dflt (refine' Spec.useG (spec_take_number _ _ _ _ _ _ _ _ _ _ _ _ _ _ _ _ _ _ _ _ _ ?th) ?zB ?zF ?zX ?zN ?zP ?zA ?zR ?zT ?zk ?zd ?zu ?_); top_raise; (case zP => ktr_rel); (case th => k_ne); top_raiseB; top_args; k_dflt (obtain ⟨t1', t2', e1', e2'⟩ := P'; top_argsB)) | (k_here; (show wpAny _ _ (call (Value.ref 330) _) _ _ _); k_dflt (refine' Spec.useG (spec_forget _ _ _ _ _ _ _ _ _ _ _ _ _ _ _ _ _ _ _ _ _ _ ?fD ?flo ?fs ?f1 ?f2 ?f5) ?zB ?zF ?zX ?zN ?zP ?zA ?zR ?zT ?zk ?zd ?zu ?_); top_raise; (case zP => ktr_rel); (case fD | flo => assumption); (case fs => omega); (case f1 | f2 | f5 => k_ne); (case zA => ktr_unf); (case zR => k_dflt (intro g1 _ hr9; exact fun p hp => PkIn.at (hP7 p hp) fun x hx => hr9 x (by (repeat (first | exact hx | refine List.Mem.tail _ ?_))))); top_raise0; top_args; k_dflt (obtain ⟨tt', e1', e2'⟩ := P'; top_argsB)) | (k_here; (show wpAny _ _ (call (Value.ref 117) _) _ _ _); k_dflt (refine' Spec.useG (spec_acked _ _ _ _ _ _ _ _ _ _ _ _ _ _ _ _ _ _ _ _ ?kth ?krc ?kne ?kW ?kW2 ?kz ?kz2 ?kc ?kc2) ?zB ?zF ?zX ?zN ?zP ?zA ?zR ?zT ?zk ?zd ?zu ?_); top_raise; (case zP => ktr_rel); (case kth | krc => assumption); (case kne => k_ne); (case kW | kW2 | kz | kz2 | kc | kc2 => omega); top_raiseB; top_args; k_dflt (obtain ⟨Wd', cr', ta', tb', tc'', e1', hW1', hW2', hc1', hc2', e2'⟩ := P'; top_argsB)) | (k_here; (show wpAny _ _ (call (Value.ref 304) _) _ _ _); k_dflt (refine' Spec.useG (spec_note_largest _ _ _ _ _ _ _ _ _ _ _ _ _ _ _ _ _ _ _ _ _ _ ?nla ?nlh) ?zB ?zF ?zX ?zN ?zP ?zA ?zR ?zT ?zk ?zd ?zu ?_); top_raise; (case zP => ktr_rel); (case nla => assumption); (case nlh => k_ne); top_raiseB; top_args; k_dflt (obtain ⟨l9, t9, e1', hl9a, hl9b, e2'⟩ := P'; top_argsB)) | (k_here; (show wpAny _ _ (call (Value.ref 271) _) _ _ _); k_dflt (refine' Spec.use (spec_sp_sent _ _ _ _ _ _ _ _ _ _ _ _ _ _ _ _ _ _ _ _ _ _ _ _ _ _ _ _ _ _ _ _ ?sd ?ss ?s1 ?s2 ?s3 ?s4 ?s5 ?s6 ?s7 ?s8 ?s9 ?s10) ?zB ?zF ?zX ?zN ?zP ?zA ?zR ?zT ?zk ?zd ?zu (sent_ret ?_)); top_raise; (case zP => ktr_rel); (case sd => assumption); (case ss => ((try simp only [List.length_map]); omega)); (case s1 | s2 | s3 | s4 | s5 | s6 | s7 | s8 | s9 | s10 => k_ne); top_raiseB; intro pa' pd' k0' k1' k2' k3' k4' k5' od' h' tk' hd' hl' hm' hA1 hA2 F' N'; top_strB) | (k_here; (show wpAny _ _ (call (Value.ref 344) _) _ _ _); k_dflt (refine' Spec.useG (spec_draw _ _ _ _ _ _ _ _ _ _ _ _ ?dhi ?dhl ?dp0 ?dp1 ?dp2 ?dp3 ?dm0 ?dm1) ?zB ?zF ?zX ?zN ?zP ?zA ?zR ?zT ?zk ?zd ?zu ?_); top_raise; (case zP => ktr_rel); (case dhi => exact hI8); (case dhl => assumption); (case dp0 | dp1 | dp2 | dp3 | dm0 | dm1 => omega); (case zA => ktr_unf); (case zR => k_dflt (intro g1 st1 hr9; exact ⟨_, hr9 (X.asc, PySem.W.listOf ys.toArray ys.length) (by k_mem), rfl, _, rfl⟩)); top_raise0; top_args; k_dflt (obtain ⟨r', tr', p0', t0', t2', e1', hr0', hr1', hp0', hp1', e2'⟩ := P'; top_argsB)) | (k_here; (show wpAny _ _ (call (Value.builtin "list.append") [Value.ref _, _]) _ _ _); k_dflt (refine' append_K ?k1 ?k2 ?k3 ?_ ?z; (case k1 => k_asm); (case k2 => k_asm); (case k3 => k_upd); (case z => (rw [sizeLine_eq]; omega)); k_whole); intro h' F' N') | (k_here; (show wpAny _ _ (call (Value.builtin "dict.pop") [Value.ref _, Value.int _ _]) _ _ _); k_dflt (refine' kob_pop (knd := PySem.intKind _ _) (more := []) ?F ?N ?U ?d (intKind_is _ _ _ _) (.inl rfl) (by rfl) (PySem.F.args_dict_pop_2 _ _) ?l ?z ?_; (case F => k_asm); (case N => k_asm); (case U => k_updF); (case d => assumption); (case l => assumption); (case z => (rw [sizeLine_eq]; assumption))); intro h' o' F' N' hd'; (try dsimp only at N')) | (k_here; (show wpAny _ _ (compareOp CmpOp.NotIn (Value.int _ _) (Value.ref _)) _ _ _); k_dflt (refine' notin_ints ?iiN ?iim ?iii ?iib ?_; (case iiN => k_asm); (case iim => k_mem); (case iii => assumption); (case iib => assumption))) | (k_here; (show wpAny _ _ (setItem (Value.ref _) (Value.str _ _) _) _ _ _); k_dflt (refine' kda_set (knd := PySem.strKind _ _) ?F ?N ?U ?d (strKind_is _ _ _ _) ?z ?_; (case F => k_asm); (case N => k_asm); (case U => k_updF); (case d => assumption); (case z => (rw [sizeLine_eq]; exact Nat.le_of_ble_eq_true rfl))); intro h' o' F' N' hd'; (try dsimp only at N')) | (k_here; (show wpAny _ _ (subscriptTail _ _ (Value.ref _) (Value.str _ _)) _ _ _); k_dflt (refine' kda_item (knd := PySem.strKind _ _) ?N ?p ?d (strKind_is _ _ _ _) ?l ?_; (case N => k_asm); (case p => k_mem); (case d => assumption); (case l => exact rfl))) | (k_here; (show wpAny _ _ (eval (Expr.Dict [] [] _) _) _ _ _); k_dflt (refine' newDict_K ?ndF ?ndN ?ndB ?_; (case ndF => k_asm); (case ndN => k_asm); (case ndB => exact Top.nolimit (by k_asm))); intro d' h' o' F' N' l1 lo' hs' fs' hi' fi'; (try k_lt l1)) | (k_here; (show wpAny _ _ (callWith _ (Value.ref _) _ _ _) _ _ _); k_dflt (refine' callWith_K0 ?cw1 ?cw2 ?_; (case cw1 => (refine' Frag.In.keeps ?ci1 ?ci2; (case ci1 => k_asm); (case ci2 => (refine' Fr.keep ?ci3; (case ci3 => k_asm))))); (case cw2 => k_is); k_whole))) | walk1 | dsimp only | (leave1; try dsimp only) | fail "no step"))
        all_goals (try dsimp only)
        refine' Spec.use2 (spec_law_loses _ X _ nwL h9 ?hL9 hO5) [] ?zB ?zF ?zX ?zN ?zs sub_nil ?zA ?zR ?zT ?zk ?zd ?zu ?_
        case hL9 => exact hL
        case zB => k_asm
        case zF => k_asm
        case zX => k_asm
        case zN => k_asm
        case zs => exact fun p hp => List.Mem.tail _ hp
        case zA => exact fun _ _ _ h => nomatch h
        case zR => exact fun _ _ _ => trivial
        case zT => k_asm
        case zk => first | exact rfl | assumption
        case zd => ktr_room
        case zu => ktr_units
        intro v' nw6 h' tk' F' N' A' P'
        refine gen_P fun G9 kG9 => ?_
        obtain ⟨a6, e6, hL6, hO6, hN6, hdr6, hnow6, hend6, hdue6⟩ := P'
        subst e6
        refine kG9 ?_
        clear kG9
        have hin6 : (b.N : Int) - 1 - 3 ∈ a6.ends := by
          have h1 := hin' (b.N - 4) (by omega) (by omega)
          obtain ⟨q, hq, eq⟩ := List.mem_map.mp h1
          have e4 : q.n + 3 = (b.N : Int) - 1 := by rw [eq]; omega
          have h2 := hdue6 q (keepN_mem.mpr ⟨hq, fun h => by have := List.mem_singleton.mp h; omega⟩) (by
            obtain ⟨qn, qt, qz, qa, qd, qu⟩ := q
            dsimp only at e4
            rw [due_far (by omega) (by omega)]
            exact decide_eq_true (by omega))
          rwa [show q.n = (b.N : Int) - 1 - 3 by omega] at h2
        have N6 := News.sub (l' := nw6) N' fun p hp => List.mem_append_left _ hp
        clear A' N' N hL hdue6 hend6
        have hL6c := hL6
        refine gen_P fun G9 kG9 => ?_
        refine Lay.elim hL6 fun p0 t0 t2 tN le tW tf tc th rcv tn ow ost oou ens ke R hp0 hp0' hth hrc hla hW hS hU hE hP r1 r2 r3 r4 r5 r6 r7 r8 r9 enw => ?_
        clear hL6
        cases enw
        refine kG9 ?_
        clear kG9
        have hnotin : (!decide ((b.N : Int) - 1 - 3 ∈ a6.ends)) = false := by rw [decide_eq_true hin6]; rfl
        dsimp only [mains, List.cons_append, List.nil_append] at N6
        (repeat' (first | (k_unfold; (try dsimp only)) | (k_end; wrow_close) | (with_reducible first | (k_here; (show wpAny _ _ (call (Value.ref 148) _) _ _ _); k_dflt (refine' call_cls ?q1 ?q2 ?q3 ?q4 ?q5 ?q6 ?_; (case q1 => k_asm); (case q2 => k_asm); (case q3 => k_asm); (case q4 | q5 | q6 => k_is); k_whole); intro x' d' h' F' N' l1 l2; (try k_lt2 l2); (try k_sweep); k_dflt (refine' SpecI.useG (spec_ctl_init _ _ _ _ ?sne) ?zB ?zF ?zX ?zN ?zP ?zA ?zT ?zk ?zd ?zu ?_); top_raise; (case zP => ktr_rel); (case sne => k_ne); (case zA => ktr_unf); top_raise0; intro v' p' h' tk' F' N' A' P'; k_dflt (intro G9 kG9; cases P'; refine kG9 ?_; clear kG9; refine ⟨rfl, ?_⟩); clear A'; top_strB) | (k_here; (show wpAny _ _ (call (Value.ref 333) _) _ _ _); k_dflt (refine' call_cls ?q1 ?q2 ?q3 ?q4 ?q5 ?q6 ?_; (case q1 => k_asm); (case q2 => k_asm); (case q3 => k_asm); (case q4 | q5 | q6 => k_is); k_whole); intro x' d' h' F' N' l1 l2; (try k_lt2 l2); (try k_sweep); k_dflt (refine' SpecI.useG (spec_space_init _ _ _ _ _ ?sne) ?zB ?zF ?zX ?zN ?zP ?zA ?zT ?zk ?zd ?zu ?_); top_raise; (case zP => ktr_rel); (case sne => k_ne); (case zA => ktr_unf); top_raise0; intro v' p' h' tk' F' N' A' P'; k_dflt (intro G9 kG9; cases P'; refine kG9 ?_; clear kG9; refine ⟨rfl, ?_⟩); k_dflt (have hA3 := apart_mem A' (List.Mem.tail _ (List.Mem.tail _ (List.Mem.head _)))); clear A'; top_strB) | (k_here; (show wpAny _ _ (call (Value.ref 110) _) _ _ _); k_dflt (refine' Spec.useG (spec_discarded _ _ _ _ _ _ _ _ _ _ _ _ _ ?ch) ?zB ?zF ?zX ?zN ?zP ?zA ?zR ?zT ?zk ?zd ?zu ?_); top_raise; (case zP => ktr_rel); (case ch => k_ne); top_raiseB; top_args; k_dflt (obtain ⟨t1', e1', e2'⟩ := P'; top_argsB)) | (k_here; (show wpAny _ _ (call (Value.ref 103) _) _ _ _); k_dflt (refine' Spec.useG (spec_ctl_sent _ _ _ _ _ _ _ _ _ _ _ _ _ ?ch) ?zB ?zF ?zX ?zN ?zP ?zA ?zR ?zT ?zk ?zd ?zu ?_); top_raise; (case zP => ktr_rel); (case ch => k_ne); top_raiseB; top_args; k_dflt (obtain ⟨t1', e1', e2'⟩ := P'; top_argsB)) | (k_here; (show wpAny _ _ (call (Value.ref 264) _) _ _ _); k_dflt (refine' Spec.useG (spec_take_number _ _ _ _ _ _ _ _ _ _ _ _ _ _ _ _ _ _ _ _ _ ?th) ?zB ?zF ?zX ?zN ?zP ?zA ?zR ?zT ?zk ?zd ?zu ?_); top_raise; (case zP => ktr_rel); (case th => k_ne); top_raiseB; top_args; k_dflt (obtain ⟨t1', t2', e1', e2'⟩ := P'; top_argsB)) | (k_here; (show wpAny _ _ (call (Value.ref 330) _) _ _ _); k_dflt (refine' Spec.useG (spec_forget _ _ _ _ _ _ _ _ _ _ _ _ _ _ _ _ _ _ _ _ _ _ ?fD ?flo ?fs ?f1 ?f2 ?f5) ?zB ?zF ?zX ?zN ?zP ?zA ?zR ?zT ?zk ?zd ?zu ?_); top_raise; (case zP => ktr_rel); (case fD | flo => assumption); (case fs => omega); (case f1 | f2 | f5 => k_ne); (case zA => ktr_unf); (case zR => k_dflt (intro g1 _ hr9; exact fun p hp => PkIn.at (hP7 p hp) fun x hx => hr9 x (by (repeat (first | exact hx | refine List.Mem.tail _ ?_))))); top_raise0; top_args; k_dflt (obtain ⟨tt', e1', e2'⟩ := P'; top_argsB)) | (k_here; (show wpAny _ _ (call (Value.ref 117) _) _ _ _); k_dflt (refine' Spec.useG (spec_acked _ _ _ _ _ _ _ _ _ _ _ _ _ _ _ _ _ _ _ _ ?kth ?krc ?kne ?kW ?kW2 ?kz ?kz2 ?kc ?kc2) ?zB ?zF ?zX ?zN ?zP ?zA ?zR ?zT ?zk ?zd ?zu ?_); top_raise; (case zP => ktr_rel); (case kth | krc => assumption); (case kne => k_ne); (case kW | kW2 | kz | kz2 | kc | kc2 => omega); top_raiseB; top_args; k_dflt (obtain ⟨Wd', cr', ta', tb', tc'', e1', hW1', hW2', hc1', hc2', e2'⟩ := P'; top_argsB)) | (k_here; (show wpAny _ _ (call (Value.ref 304) _) _ _ _); k_dflt (refine' Spec.useG (spec_note_largest _ _ _ _ _ _ _ _ _ _ _ _ _ _ _ _ _ _ _ _ _ _ ?nla ?nlh) ?zB ?zF ?zX ?zN ?zP ?zA ?zR ?zT ?zk ?zd ?zu ?_); top_raise; (case zP => ktr_rel); (case nla => assumption); (case nlh => k_ne); top_raiseB; top_args; k_dflt (obtain ⟨l9, t9, e1', hl9a, hl9b, e2'⟩ := P'; top_argsB)) | (k_here; (show wpAny _ _ (call (Value.ref 271) _) _ _ _); k_dflt (refine' Spec.use (spec_sp_sent _ _ _ _ _ _ _ _ _ _ _ _ _ _ _ _ _ _ _ _ _ _ _ _ _ _ _ _ _ _ _ _ ?sd ?ss ?s1 ?s2 ?s3 ?s4 ?s5 ?s6 ?s7 ?s8 ?s9 ?s10) ?zB ?zF ?zX ?zN ?zP ?zA ?zR ?zT ?zk ?zd ?zu (sent_ret ?_)); top_raise; (case zP => ktr_rel); (case sd => assumption); (case ss => ((try simp only [List.length_map]); omega)); (case s1 | s2 | s3 | s4 | s5 | s6 | s7 | s8 | s9 | s10 => k_ne); top_raiseB; intro pa' pd' k0' k1' k2' k3' k4' k5' od' h' tk' hd' hl' hm' hA1 hA2 F' N'; top_strB) | (k_here; (show wpAny _ _ (call (Value.ref 344) _) _ _ _); k_dflt (refine' Spec.useG (spec_draw _ _ _ _ _ _ _ _ _ _ _ _ ?dhi ?dhl ?dp0 ?dp1 ?dp2 ?dp3 ?dm0 ?dm1) ?zB ?zF ?zX ?zN ?zP ?zA ?zR ?zT ?zk ?zd ?zu ?_); top_raise; (case zP => ktr_rel); (case dhi => exact hI8); (case dhl => assumption); (case dp0 | dp1 | dp2 | dp3 | dm0 | dm1 => omega); (case zA => ktr_unf); (case zR => k_dflt (intro g1 st1 hr9; exact ⟨_, hr9 (X.asc, PySem.W.listOf ys.toArray ys.length) (by k_mem), rfl, _, rfl⟩)); top_raise0; top_args; k_dflt (obtain ⟨r', tr', p0', t0', t2', e1', hr0', hr1', hp0', hp1', e2'⟩ := P'; top_argsB)) | (k_here; (show wpAny _ _ (call (Value.builtin "list.append") [Value.ref _, _]) _ _ _); k_dflt (refine' append_K ?k1 ?k2 ?k3 ?_ ?z; (case k1 => k_asm); (case k2 => k_asm); (case k3 => k_upd); (case z => (rw [sizeLine_eq]; omega)); k_whole); intro h' F' N') | (k_here; (show wpAny _ _ (call (Value.builtin "dict.pop") [Value.ref _, Value.int _ _]) _ _ _); k_dflt (refine' kob_pop (knd := PySem.intKind _ _) (more := []) ?F ?N ?U ?d (intKind_is _ _ _ _) (.inl rfl) (by rfl) (PySem.F.args_dict_pop_2 _ _) ?l ?z ?_; (case F => k_asm); (case N => k_asm); (case U => k_updF); (case d => assumption); (case l => assumption); (case z => (rw [sizeLine_eq]; assumption))); intro h' o' F' N' hd'; (try dsimp only at N')) | (k_here; (show wpAny _ _ (compareOp CmpOp.NotIn (Value.int _ _) (Value.ref _)) _ _ _); k_dflt (refine' notin_ints ?iiN ?iim ?iii ?iib ?_; (case iiN => k_asm); (case iim => k_mem); (case iii => assumption); (case iib => assumption))) | (k_here; (show wpAny _ _ (setItem (Value.ref _) (Value.str _ _) _) _ _ _); k_dflt (refine' kda_set (knd := PySem.strKind _ _) ?F ?N ?U ?d (strKind_is _ _ _ _) ?z ?_; (case F => k_asm); (case N => k_asm); (case U => k_updF); (case d => assumption); (case z => (rw [sizeLine_eq]; exact Nat.le_of_ble_eq_true rfl))); intro h' o' F' N' hd'; (try dsimp only at N')) | (k_here; (show wpAny _ _ (subscriptTail _ _ (Value.ref _) (Value.str _ _)) _ _ _); k_dflt (refine' kda_item (knd := PySem.strKind _ _) ?N ?p ?d (strKind_is _ _ _ _) ?l ?_; (case N => k_asm); (case p => k_mem); (case d => assumption); (case l => exact rfl))) | (k_here; (show wpAny _ _ (eval (Expr.Dict [] [] _) _) _ _ _); k_dflt (refine' newDict_K ?ndF ?ndN ?ndB ?_; (case ndF => k_asm); (case ndN => k_asm); (case ndB => exact Top.nolimit (by k_asm))); intro d' h' o' F' N' l1 lo' hs' fs' hi' fi'; (try k_lt l1)) | (k_here; (show wpAny _ _ (callWith _ (Value.ref _) _ _ _) _ _ _); k_dflt (refine' callWith_K0 ?cw1 ?cw2 ?_; (case cw1 => (refine' Frag.In.keeps ?ci1 ?ci2; (case ci1 => k_asm); (case ci2 => (refine' Fr.keep ?ci3; (case ci3 => k_asm))))); (case cw2 => k_is); k_whole))) | walk1 | dsimp only | (leave1; try dsimp only) | fail "no step"))
        all_goals (try dsimp only)
        refine' Spec.use2 (spec_law_is_kept _ X a6 _ h9 hL6c hO6) [] ?zB ?zF ?zX ?zN ?zs sub_nil ?zA ?zR ?zT ?zk ?zd ?zu ?_
        case zB => k_asm
        case zF => k_asm
        case zX => k_asm
        case zN => k_asm
        case zs => exact (by simp only [mains, List.cons_append, List.nil_append]; tb_rel)
        case zA => exact fun _ _ _ h => nomatch h
        case zR => exact fun _ _ _ => trivial
        case zT => k_asm
        case zk => first | exact rfl | assumption
        case zd => ktr_room
        case zu => ktr_units
        intro v' nw7 h' tk' F' N' A' P'
        refine gen_P fun G9 kG9 => ?_
        obtain ⟨e7, hL⟩ := P'
        subst e7
        refine kG9 ?_
        clear kG9
        have N7 := News.sub (l' := nw7) N' fun p hp => List.mem_append_left _ hp
        clear A' N' N6 hW hS hU hE hP hth hrc hla r1 r2 r3 r4 r5 r6 r7 r8 r9 hL6c
        refine gen_P fun G9 kG9 => ?_
        refine Lay.elim hL fun p0 t0 t2 tN le tW tf tc th rcv tn ow ost oou ens ke R hp0 hp0' hth hrc hla hW hS hU hE hP r1 r2 r3 r4 r5 r6 r7 r8 r9 enw => ?_
        clear hL
        cases enw
        refine kG9 ?_
        clear kG9
        dsimp only [mains, List.cons_append, List.nil_append] at N7
        have hl7 : a6.ps.length ≤ 61 := by have := hO6.len; have := hO6.N; omega
        have hP7 : ∀ p ∈ a6.ps, PkIn ww R p := fun p hp => hP p (by rw [hO6.al]; exact hp)
        have hf7 := hO6.f
        (repeat' (first | (k_unfold; (try dsimp only)) | (k_end; wrow_close) | (with_reducible first | (k_here; (show wpAny _ _ (call (Value.ref 148) _) _ _ _); k_dflt (refine' call_cls ?q1 ?q2 ?q3 ?q4 ?q5 ?q6 ?_; (case q1 => k_asm); (case q2 => k_asm); (case q3 => k_asm); (case q4 | q5 | q6 => k_is); k_whole); intro x' d' h' F' N' l1 l2; (try k_lt2 l2); (try k_sweep); k_dflt (refine' SpecI.useG (spec_ctl_init _ _ _ _ ?sne) ?zB ?zF ?zX ?zN ?zP ?zA ?zT ?zk ?zd ?zu ?_); top_raise; (case zP => ktr_rel); (case sne => k_ne); (case zA => ktr_unf); top_raise0; intro v' p' h' tk' F' N' A' P'; k_dflt (intro G9 kG9; cases P'; refine kG9 ?_; clear kG9; refine ⟨rfl, ?_⟩); clear A'; top_strB) | (k_here; (show wpAny _ _ (call (Value.ref 333) _) _ _ _); k_dflt (refine' call_cls ?q1 ?q2 ?q3 ?q4 ?q5 ?q6 ?_; (case q1 => k_asm); (case q2 => k_asm); (case q3 => k_asm); (case q4 | q5 | q6 => k_is); k_whole); intro x' d' h' F' N' l1 l2; (try k_lt2 l2); (try k_sweep); k_dflt (refine' SpecI.useG (spec_space_init _ _ _ _ _ ?sne) ?zB ?zF ?zX ?zN ?zP ?zA ?zT ?zk ?zd ?zu ?_); top_raise; (case zP => ktr_rel); (case sne => k_ne); (case zA => ktr_unf); top_raise0; intro v' p' h' tk' F' N' A' P'; k_dflt (intro G9 kG9; cases P'; refine kG9 ?_; clear kG9; refine ⟨rfl, ?_⟩); k_dflt (have hA3 := apart_mem A' (List.Mem.tail _ (List.Mem.tail _ (List.Mem.head _)))); clear A'; top_strB) | (k_here; (show wpAny _ _ (call (Value.ref 110) _) _ _ _); k_dflt (refine' Spec.useG (spec_discarded _ _ _ _ _ _ _ _ _ _ _ _ _ ?ch) ?zB ?zF ?zX ?zN ?zP ?zA ?zR ?zT ?zk ?zd ?zu ?_); top_raise; (case zP => ktr_rel); (case ch => k_ne); top_raiseB; top_args; k_dflt (obtain ⟨t1', e1', e2'⟩ := P'; top_argsB)) | (k_here; (show wpAny _ _ (call (Value.ref 103) _) _ _ _); k_dflt (refine' Spec.useG (spec_ctl_sent _ _ _ _ _ _ _ _ _ _ _ _ _ ?ch) ?zB ?zF ?zX ?zN ?zP ?zA ?zR ?zT ?zk ?zd ?zu ?_); top_raise; (case zP => ktr_rel); (case ch => k_ne); top_raiseB; top_args; k_dflt (obtain ⟨t1', e1', e2'⟩ := P'; top_argsB)) | (k_here; (show wpAny _ _ (call (Value.ref 264) _) _ _ _); k_dflt (refine' Spec.useG (spec_take_number _ _ _ _ _ _ _ _ _ _ _ _ _ _ _ _ _ _ _ _ _ ?th) ?zB ?zF ?zX ?zN ?zP ?zA ?zR ?zT ?zk ?zd ?zu ?_); top_raise; (case zP => ktr_rel); (case th => k_ne); top_raiseB; top_args; k_dflt (obtain ⟨t1', t2', e1', e2'⟩ := P'; top_argsB)) | (k_here; (show wpAny _ _ (call (Value.ref 330) _) _ _ _); k_dflt (refine' Spec.useG (spec_forget _ _ _ _ _ _ _ _ _ _ _ _ _ _ _ _ _ _ _ _ _ _ ?fD ?flo ?fs ?f1 ?f2 ?f5) ?zB ?zF ?zX ?zN ?zP ?zA ?zR ?zT ?zk ?zd ?zu ?_); top_raise; (case zP => ktr_rel); (case fD | flo => assumption); (case fs => omega); (case f1 | f2 | f5 => k_ne); (case zA => ktr_unf); (case zR => k_dflt (intro g1 _ hr9; exact fun p hp => PkIn.at (hP7 p hp) fun x hx => hr9 x (by (repeat (first | exact hx | refine List.Mem.tail _ ?_))))); top_raise0; top_args; k_dflt (obtain ⟨tt', e1', e2'⟩ := P'; top_argsB)) | (k_here; (show wpAny _ _ (call (Value.ref 117) _) _ _ _); k_dflt (refine' Spec.useG (spec_acked _ _ _ _ _ _ _ _ _ _ _ _ _ _ _ _ _ _ _ _ ?kth ?krc ?kne ?kW ?kW2 ?kz ?kz2 ?kc ?kc2) ?zB ?zF ?zX ?zN ?zP ?zA ?zR ?zT ?zk ?zd ?zu ?_); top_raise; (case zP => ktr_rel); (case kth | krc => assumption); (case kne => k_ne); (case kW | kW2 | kz | kz2 | kc | kc2 => omega); top_raiseB; top_args; k_dflt (obtain ⟨Wd', cr', ta', tb', tc'', e1', hW1', hW2', hc1', hc2', e2'⟩ := P'; top_argsB)) | (k_here; (show wpAny _ _ (call (Value.ref 304) _) _ _ _); k_dflt (refine' Spec.useG (spec_note_largest _ _ _ _ _ _ _ _ _ _ _ _ _ _ _ _ _ _ _ _ _ _ ?nla ?nlh) ?zB ?zF ?zX ?zN ?zP ?zA ?zR ?zT ?zk ?zd ?zu ?_); top_raise; (case zP => ktr_rel); (case nla => assumption); (case nlh => k_ne); top_raiseB; top_args; k_dflt (obtain ⟨l9, t9, e1', hl9a, hl9b, e2'⟩ := P'; top_argsB)) | (k_here; (show wpAny _ _ (call (Value.ref 271) _) _ _ _); k_dflt (refine' Spec.use (spec_sp_sent _ _ _ _ _ _ _ _ _ _ _ _ _ _ _ _ _ _ _ _ _ _ _ _ _ _ _ _ _ _ _ _ ?sd ?ss ?s1 ?s2 ?s3 ?s4 ?s5 ?s6 ?s7 ?s8 ?s9 ?s10) ?zB ?zF ?zX ?zN ?zP ?zA ?zR ?zT ?zk ?zd ?zu (sent_ret ?_)); top_raise; (case zP => ktr_rel); (case sd => assumption); (case ss => ((try simp only [List.length_map]); omega)); (case s1 | s2 | s3 | s4 | s5 | s6 | s7 | s8 | s9 | s10 => k_ne); top_raiseB; intro pa' pd' k0' k1' k2' k3' k4' k5' od' h' tk' hd' hl' hm' hA1 hA2 F' N'; top_strB) | (k_here; (show wpAny _ _ (call (Value.ref 344) _) _ _ _); k_dflt (refine' Spec.useG (spec_draw _ _ _ _ _ _ _ _ _ _ _ _ ?dhi ?dhl ?dp0 ?dp1 ?dp2 ?dp3 ?dm0 ?dm1) ?zB ?zF ?zX ?zN ?zP ?zA ?zR ?zT ?zk ?zd ?zu ?_); top_raise; (case zP => ktr_rel); (case dhi => exact hI8); (case dhl => assumption); (case dp0 | dp1 | dp2 | dp3 | dm0 | dm1 => omega); (case zA => ktr_unf); (case zR => k_dflt (intro g1 st1 hr9; exact ⟨_, hr9 (X.asc, PySem.W.listOf ys.toArray ys.length) (by k_mem), rfl, _, rfl⟩)); top_raise0; top_args; k_dflt (obtain ⟨r', tr', p0', t0', t2', e1', hr0', hr1', hp0', hp1', e2'⟩ := P'; top_argsB)) | (k_here; (show wpAny _ _ (call (Value.builtin "list.append") [Value.ref _, _]) _ _ _); k_dflt (refine' append_K ?k1 ?k2 ?k3 ?_ ?z; (case k1 => k_asm); (case k2 => k_asm); (case k3 => k_upd); (case z => (rw [sizeLine_eq]; omega)); k_whole); intro h' F' N') | (k_here; (show wpAny _ _ (call (Value.builtin "dict.pop") [Value.ref _, Value.int _ _]) _ _ _); k_dflt (refine' kob_pop (knd := PySem.intKind _ _) (more := []) ?F ?N ?U ?d (intKind_is _ _ _ _) (.inl rfl) (by rfl) (PySem.F.args_dict_pop_2 _ _) ?l ?z ?_; (case F => k_asm); (case N => k_asm); (case U => k_updF); (case d => assumption); (case l => assumption); (case z => (rw [sizeLine_eq]; assumption))); intro h' o' F' N' hd'; (try dsimp only at N')) | (k_here; (show wpAny _ _ (compareOp CmpOp.NotIn (Value.int _ _) (Value.ref _)) _ _ _); k_dflt (refine' notin_ints ?iiN ?iim ?iii ?iib ?_; (case iiN => k_asm); (case iim => k_mem); (case iii => assumption); (case iib => assumption))) | (k_here; (show wpAny _ _ (setItem (Value.ref _) (Value.str _ _) _) _ _ _); k_dflt (refine' kda_set (knd := PySem.strKind _ _) ?F ?N ?U ?d (strKind_is _ _ _ _) ?z ?_; (case F => k_asm); (case N => k_asm); (case U => k_updF); (case d => assumption); (case z => (rw [sizeLine_eq]; exact Nat.le_of_ble_eq_true rfl))); intro h' o' F' N' hd'; (try dsimp only at N')) | (k_here; (show wpAny _ _ (subscriptTail _ _ (Value.ref _) (Value.str _ _)) _ _ _); k_dflt (refine' kda_item (knd := PySem.strKind _ _) ?N ?p ?d (strKind_is _ _ _ _) ?l ?_; (case N => k_asm); (case p => k_mem); (case d => assumption); (case l => exact rfl))) | (k_here; (show wpAny _ _ (eval (Expr.Dict [] [] _) _) _ _ _); k_dflt (refine' newDict_K ?ndF ?ndN ?ndB ?_; (case ndF => k_asm); (case ndN => k_asm); (case ndB => exact Top.nolimit (by k_asm))); intro d' h' o' F' N' l1 lo' hs' fs' hi' fi'; (try k_lt l1)) | (k_here; (show wpAny _ _ (callWith _ (Value.ref _) _ _ _) _ _ _); k_dflt (refine' callWith_K0 ?cw1 ?cw2 ?_; (case cw1 => (refine' Frag.In.keeps ?ci1 ?ci2; (case ci1 => k_asm); (case ci2 => (refine' Fr.keep ?ci3; (case ci3 => k_asm))))); (case cw2 => k_is); k_whole))) | walk1 | dsimp only | (leave1; try dsimp only) | fail "no step"))
        all_goals (try dsimp only)
        refine hQ9 _ _ ?_
        k_steps
)
theorem law_holds : PySem.Challenge.rw_pb0526_01.Holds := law_start

end
end
end Mine
end

theorem PySem.Challenge.cw_pb0526_01_holds : PySem.Challenge.rw_pb0526_01.Holds :=
  Mine.law_holds
