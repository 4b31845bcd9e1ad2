import PyProof.Rows.All
import Wide.All
import OpenK.AllK
import Wide.FinOn
import Lean
import PySem.Challenge.RW_sm0001_01
open PySem PySem.W PySem.Calls PyProof.Rows
set_option Elab.async false
set_option rowWalk.seconds 0
set_option compiler.extract_closed false
set_option maxRecDepth 100000
set_option maxHeartbeats 0
namespace Mine
/-- the view: the statements that bind a name -/
def pick (b : List Stmt) : List Stmt := (b.drop 1).take 1 ++ ((b.drop 3).take 3 ++ ((b.drop 7).take 13 ++ ((b.drop 21).take 1 ++ b.drop 23)))
def hdView : Program := { Challenge.rw_sm0001_01.row.prog with main := { Challenge.rw_sm0001_01.row.prog.main with body := pick Challenge.rw_sm0001_01.row.prog.main.body } }
/-- the top's run, in the words that the kernel reads fast (the library's twins) -/
noncomputable def runTop (p : Program) (w : World) (N : Nat) (s₀ : Shared) : Option Shared :=
  match s₀.heap.isNs mainGlobals && s₀.gens.size == 0 with
  | true => (PySem.W.Fast.tw14082659384304107361 PySem.W.Fast.tw14364793385576792824 p w s₀.heap.objs.size (s₀.heap.nsMap mainGlobals "__annotations__") N s₀ (topStub p)).bind fun s₁ => match staticsOk (importedModules p.main.body) s₀.heap s₁.heap && namesBound p s₁.heap && gensDone s₁ && laidKept s₀.heap s₁.heap with
      | true => some s₁
      | false => none
  | false => none
theorem runTop_eq (p : Program) (w : World) (N : Nat) (s₀ : Shared) : topFrom treeTable p w N s₀ = runTop p w N s₀ := by
  unfold topFrom runTop
  rw [PySem.W.Fast.te14082659384304107361, PySem.W.Fast.te14364793385576792824]
  rfl
/-- the head's run behind the start-up that the library has run once for all -/
theorem left_boot {p q : Program} {loose : List Str} {Xt : Shared → Bool} {α : Type} {Yf : Shared → α} {Ya : World → α} {N : Nat} (e : opening p = plainProg p.main.scope.names) (hN : Nat.ble 600 N = true) (f : ∀ s, fenceModules? p s = some s)
    (h : ∀ (w : World) (os : OsState), (runTop p w N ⟨boot_heap w.params, Array.mk [], boot_drawn, boot_toks, os⟩).map (PySem.W.Fast.tw4187177175401517315 q loose (importedModules p.main.body) Xt true) = some (openGood q loose))
    (h' : ∀ (w : World) (os : OsState), (runTop p w N ⟨boot_heap w.params, Array.mk [], boot_drawn, boot_toks, os⟩).map Yf = some (Ya w)) : LeftO p q loose Xt Yf Ya N := fun w => by
  obtain ⟨⟨hp, gs, d, k, os⟩, e1, e2⟩ := Option.map_eq_some_iff.mp (boot_open e hN f w)
  cases e2
  unfold openEnds
  rw [e1, Option.bind_some, runTop_eq, PySem.W.Fast.te4187177175401517315]
  obtain ⟨s, e3, e4⟩ := Option.map_eq_some_iff.mp (h w os)
  obtain ⟨s', e5, e6⟩ := Option.map_eq_some_iff.mp (h' w os)
  rw [e3] at e5
  cases e5
  show Option.map (fun s => (PySem.W.Fast.tw4187177175401517315 q loose (importedModules p.main.body) Xt true s, Yf s)) (runTop p w N ⟨boot_heap w.params, Array.mk [], boot_drawn, boot_toks, os⟩) = _
  rw [e3, Option.map_some, e4, e6]
theorem hd_said : Challenge.rw_sm0001_01.wellSaid = true := by
  rw [PySem.W.Fast.te9446332074065402090]
  kernel_rfl
theorem hd_opening : opening Challenge.rw_sm0001_01.row.prog = plainProg (Challenge.rw_sm0001_01.row.prog).main.scope.names := by kernel_rfl
theorem hd_fence (s : Shared) : fenceModules? Challenge.rw_sm0001_01.row.prog s = some s := by kernel_rfl
abbrev hdX (s : Shared) : Bool := xlAt hdView [] s && recOk (RowW.records Challenge.rw_sm0001_01.row.toRowW) s
theorem both_open {r : OpenRow} {q : Program} {loose : List Str} {Xt : Shared → Bool} {XP : (Str → Option Value) → Heap → Prop} {α : Type} {Yf : Shared → α} {Ya : World → α} {YP : World → Heap → Prop} {d : DefRec} {kwd : List (Str × PySem.Expr)} {N : Nat}
    (hY : ∀ w s, Yf s = Ya w → YP w s.heap) (hYk : ∀ w h h', YP w h → (∀ b o, h.get? b = some o → h'.get? b = some o) → YP w h')
    (hX : ∀ s, Xt s = true → XP (s.heap.nsMap mainGlobals) s.heap) (hXk : ∀ mg h h', XP mg h → (∀ b o, h.get? b = some o → h'.get? b = some o) → XP mg h')
    (hdef : defOf q r.name = some (d, kwd)) (hp : r.prog.theDef r.name = some (d.params, d.body, d.scope)) (hk : kwWritten? d.params.kwonlyargs d.params.kw_defaults = some kwd) (hRf : ∀ s, Xt s = true → RecFacts r.records s.heap) (hwr : (!r.writes || r.records.isEmpty) = true)
    (k1 : r.wellSaid = true) (ok : (chainsOk q && opensWell r.prog && (frees r.toRowW && r.within.isEmpty)) = true) (hb : r.prog.bare) (hw : r.toRowW.promised)
    (ab : LeftO r.prog q loose Xt Yf Ya N ∧ WalkO q loose XP YP r.toRowW d kwd fun f vs => PySem.call f vs) : r.Holds :=
  PySem.W.holds_open ab.1 hY hYk hX hXk hdef hp hk hRf hwr k1 ok hb hw ab.2
local macro_rules | `(tactic| o_law) => `(tactic| refine holds_law hd_said fun said => ?_)
local macro_rules | `(tactic| o_head $H) => `(tactic| (
  refine both_open (q := hdView) (loose := [Str.ofString "BasicError"]) (Xt := hdX) (XP := XL hdView []) (Yf := Hook.obs $H) (Ya := Hook.val $H) (YP := Hook.says $H) (N := 2962) (Hook.of $H) (Hook.keeps $H) (fun s e => xl_of s (Bool.and_eq_true_iff.mp e).1) XL.keeps (by rfl) (by rfl) (by rfl) (fun s e => recFacts_of (Bool.and_eq_true_iff.mp e).2) (by rfl) (by first | assumption | decide +kernel) (by decide +kernel) ⟨rfl, rfl, rfl, rfl, rfl, by decide +kernel⟩ ?hw ?hc))
open_top hd for PySem.Challenge.rw_sm0001_01
theorem hd_seen (w : World) (os : OsState) : (runTop Challenge.rw_sm0001_01.row.prog w 2962 ⟨boot_heap w.params, Array.mk [], boot_drawn, boot_toks, os⟩).map (PySem.W.Fast.tw4187177175401517315 hdView [Str.ofString "BasicError"] (importedModules (Challenge.rw_sm0001_01.row.prog).main.body) hdX true) = some (openGood hdView [Str.ofString "BasicError"]) := by kernel_rfl
def hdAs : List Addr := [2, 3, 15, 17, 18, 20, 21, 22, 25, 30, 31, 32, 34, 35, 37, 38, 39, 40, 41, 42, 45, 47, 48, 50, 51, 52, 59, 60, 61, 62, 65, 67, 68, 70, 71, 72, 74, 75, 77, 78, 79, 81, 82, 84, 85, 86, 88, 89, 91, 92, 93, 95, 96, 98, 99, 100, 102, 103, 105, 106, 107, 109, 110, 112, 113, 114, 116, 117, 119, 120, 121, 123, 124, 126, 127, 128, 130, 131, 133, 134, 142, 143, 145, 146, 148, 149, 150, 151, 152, 153, 154, 157, 159, 160, 162, 163, 164, 166, 167, 169, 170, 171, 174, 175, 176, 179, 180, 181, 183, 184, 186, 187, 188, 190, 191, 193, 194, 195, 197, 198, 200, 201, 202, 205, 206, 207, 210, 211]
theorem hd_vals (w : World) (os : OsState) : (runTop Challenge.rw_sm0001_01.row.prog w 2962 ⟨boot_heap w.params, Array.mk [], boot_drawn, boot_toks, os⟩).map (fun s => hdAs.map s.heap.get?) = some ((Mine.hd.heap_1 w.params).map fun p => some p.2) := by kernel_rfl
theorem hd_left : LeftO Challenge.rw_sm0001_01.row.prog hdView [Str.ofString "BasicError"] hdX (fun s => hdAs.map s.heap.get?) (fun w => (Mine.hd.heap_1 w.params).map fun p => some p.2) 2962 := left_boot hd_opening (by decide) hd_fence hd_seen hd_vals
/-- the surroundings of a call -/
abbrev At (hd : Option Value) (dp un : Nat) (gd : Option (List Code)) (env : Env) (outer : List Env) : Around := { handled := hd, depth := dp, frames := some (env :: outer), guards := gd, units := un }
/-- what is known where a call is made -/
structure Here (w : World) (A₀ : Around) (base : Heap) (outer : List Env) (h₀ : Heap) (L : Addr) (m : Str → Option Value) (p : Program) (loose : List Str) (mean : ExcName → Option Value) (mg mb : Str → Option Value) (env : Env) (s : Shared) : Prop where
  B : Below A₀ base outer h₀
  F : Fr h₀ L s.heap m
  X : (Mine.hd.heap_1 w.params).In h₀
  T : Top p loose mean mg mb h₀
  hf : env.frame = some L
  hk : env.scope.kind = .function
theorem ne_of_allLt {d : Addr} : ∀ {l : List (Addr × Obj)}, AllLt d l → ∀ p ∈ l, p.1 ≠ d
  | [], _, _, h => nomatch h
  | q :: _, h, p, hp => by
    rcases List.mem_cons.mp hp with rfl | hp
    · exact Nat.ne_of_lt h.1
    · exact ne_of_allLt h.2 p hp
theorem lt_of_allLt {d : Addr} : ∀ {l : List (Addr × Obj)}, AllLt d l → ∀ p ∈ l, p.1 < d
  | [], _, _, h => nomatch h
  | q :: _, h, p, hp => by
    rcases List.mem_cons.mp hp with rfl | hp
    · exact h.1
    · exact lt_of_allLt h.2 p hp
theorem lt_of_and {a : Prop} {d : Addr} {l : List (Addr × Obj)} (h : a ∧ AllLt d l) : ∀ p ∈ l, p.1 < d := lt_of_allLt h.2
theorem news_dup {h₀ h : Heap} {L : Addr} {a : Addr × Obj} {l : List (Addr × Obj)} (hm : a ∈ l) (N : News h₀ L h l) : News h₀ L h (a :: l) := fun p hp => by
  rcases List.mem_cons.mp hp with rfl | hp
  · exact N _ hm
  · exact N p hp
theorem news_drop {h₀ h : Heap} {L : Addr} {a : Addr × Obj} {l : List (Addr × Obj)} (N : News h₀ L h (a :: l)) : News h₀ L h l := fun p hp => N p (.tail _ hp)
theorem nm_some {α : Type} {o : Option α} {y : α} (_h : o = some y) : ∃ z : α, z = y := ⟨y, rfl⟩
theorem nm_first {g h : Heap} {L l : Addr} {o : Obj} {r : List (Addr × Obj)} (_N : News g L h ((l, o) :: r)) : ∃ x : Nat, x = l := ⟨l, rfl⟩
theorem nm_second {g h : Heap} {L l : Addr} {p : Addr × Obj} {o : Obj} {r : List (Addr × Obj)} (_N : News g L h (p :: (l, o) :: r)) : ∃ x : Nat, x = l := ⟨l, rfl⟩
theorem nm_dat {tl : List (Addr × Obj)} {vs : List Value} {ds : List Dat} (_h : DatAll tl vs ds) : ∃ (a : List (Addr × Obj)) (b : List Value), a = tl ∧ b = vs := ⟨_, _, rfl, rfl⟩
theorem nm_epoch {g h : Heap} {L l : Addr} {p : Addr × Obj} {its : Array Value} {n : Nat} {r : List (Addr × Obj)} (_N : News g L h (p :: (l, listOf its n) :: r)) : ∃ x : Nat, x = n := ⟨n, rfl⟩
theorem news_drop2 {h₀ h : Heap} {L : Addr} {a b : Addr × Obj} {l : List (Addr × Obj)} (N : News h₀ L h (a :: b :: l)) : News h₀ L h (a :: l) := fun p hp => N p (by
  rcases List.mem_cons.mp hp with rfl | hp
  · exact .head _
  · exact .tail _ (.tail _ hp))
theorem fr_shadow {g h : Heap} {L : Addr} {x : Str} {v u : Option Value} {M : Str → Option Value} (F : Fr g L h (fun y => if y = x then v else if y = x then u else M y)) : Fr g L h (fun y => if y = x then v else M y) := by
  have e : (fun y => if y = x then v else if y = x then u else M y) = (fun y => if y = x then v else M y) := by
    funext y; by_cases hy : y = x <;> simp [hy]
  rw [← e]; exact F
/-- the walk stops here -/
def Stop (P : Prop) : Prop := P
theorem stop_while {prog : Program} {w : World} {A : Around} {E : Value → Shared → Prop} {s : Shared} {env : Env} {test : PySem.Expr} {body orelse : List Stmt} {Q : Flow → Shared → Prop} {pos : Pos}
    (h : Stop (WhlRest prog w A E env test body orelse Q 0 s)) : wpAny (model prog w) A (exec (.While test body orelse pos) env) Q E s := whl_start 0 h
theorem fr_start {g h : Heap} {L : Addr} {x : Str} {v : Option Value} {M : Str → Option Value} (F : Fr g L h M) (e : M x = v) : Fr g L h (fun y => if y = x then v else M y) := by
  have e : (fun y => if y = x then v else M y) = M := by
    funext y; by_cases hy : y = x
    · subst hy; simp [e]
    · simp [hy]
  rw [e]; exact F
/-- the end of a loop's turn -/
def TurnEnd (Again : Shared → Prop) (Q : Flow → Shared → Prop) (f : Flow) (s : Shared) : Prop :=
  match f with
  | .next => Stop (Again s)
  | .cont => Stop (Again s)
  | .brk => Q .next s
  | .ret v => Q (.ret v) s
/-- a while by its state: each turn lowers the measure -/
theorem whl_loop {prog : Program} {w : World} {A : Around} {E : Value → Shared → Prop} {s : Shared} {env : Env} {test : PySem.Expr} {body orelse : List Stmt} {Q : Flow → Shared → Prop}
    {σ : Type} (I : σ → Heap → Prop) (μ : σ → Nat) (hE : PassesOwn (model prog w) A env E)
    (turn : ∀ c h tk, I c h →
      wpAny (model prog w) A (isTrue test env (eval test env)) (fun b s₂ => WhlIf b (wpAny (model prog w) A (execs body env) (TurnEnd (fun s₃ => ∃ c' h' tk', s₃ = { s with heap := h', toks := tk' } ∧ μ c' < μ c ∧ I c' h') Q) E s₂) (wpAny (model prog w) A (execs orelse env) Q E s₂)) E { s with heap := h, toks := tk })
    (c : σ) {h : Heap} {tk : Nat} (h0 : I c h) : WhlRest prog w A E env test body orelse Q 0 { s with heap := h, toks := tk } := by
  have all : ∀ (n : Nat) (c : σ) (h : Heap) (tk : Nat), μ c < n → I c h → WhlRest prog w A E env test body orelse Q 0 { s with heap := h, toks := tk } := by
    intro n
    induction n with
    | zero => intro c h tk hn; exact absurd hn (Nat.not_lt_zero _)
    | succ n ih =>
      intro c h tk hn hI
      refine whl_turn (k := 0) hE (wpAny_mono (turn c h tk hI) (fun b s₂ hb => ?_) fun _ _ x => x)
      cases b with
      | false => exact hb
      | true =>
        refine WhlIf.yes rfl (wpAny_mono (show wpAny _ _ _ _ _ _ from hb) (fun f s₃ hf => ?_) fun _ _ x => x)
        cases f with
        | next => obtain ⟨c', h', tk', rfl, hlt, hI'⟩ := hf; exact ih c' h' tk' (by omega) hI'
        | cont => obtain ⟨c', h', tk', rfl, hlt, hI'⟩ := hf; exact ih c' h' tk' (by omega) hI'
        | brk => exact hf
        | ret v => exact hf
  exact all _ c h tk (Nat.lt_succ_self _) h0
/-- the same, the goal's continuation behind variables: a turn's goal then names Again and Q' alone -/
theorem whl_loopA {prog : Program} {w : World} {A : Around} {E : Value → Shared → Prop} {s : Shared} {env : Env} {test : PySem.Expr} {body orelse : List Stmt} {Q : Flow → Shared → Prop}
    {σ : Type} (I : σ → Heap → Prop) (μ : σ → Nat) (hE : PassesOwn (model prog w) A env E)
    (turn : ∀ c h tk (Again : Shared → Prop) (Q' : Flow → Shared → Prop), (∀ c' h' tk', μ c' < μ c → I c' h' → Again { s with heap := h', toks := tk' }) → (∀ f s', Q f s' → Q' f s') → I c h →
      wpAny (model prog w) A (isTrue test env (eval test env)) (fun b s₂ => WhlIf b (wpAny (model prog w) A (execs body env) (TurnEnd Again Q') E s₂) (wpAny (model prog w) A (execs orelse env) Q' E s₂)) E { s with heap := h, toks := tk })
    (c : σ) {h : Heap} {tk : Nat} (h0 : I c h) : WhlRest prog w A E env test body orelse Q 0 { s with heap := h, toks := tk } :=
  whl_loop I μ hE (fun c h tk hI => turn c h tk _ Q (fun c' h' tk' a b => ⟨c', h', tk', rfl, a, b⟩) (fun _ _ x => x) hI) c h0
theorem fr_open {g h : Heap} {L : Addr} {M0 : Str → Option Value} (F : Fr g L h M0) : ∃ M, M = M0 ∧ Fr g L h M := ⟨_, rfl, F⟩
/-- a call whose frame sees `mine` alone on its ledger: the rest is kept beneath -/
theorem code_defR {prog : Program} {w : World} {A₀ A : Around} {s : Shared} {base h₀ : Heap} {outer : List Env} {L : Addr} {m : Str → Option Value} {env : Env} {mine rest : List (Addr × Obj)} {K : Frag} {p : Program} {loose : List Str} {mean : ExcName → Option Value} {mg mb : Str → Option Value}
    {R : Result → Shared → Prop} {name qual : Str} {params : Arguments} {body : List Stmt} {scope : Scope} {dV kV doc pm cdv ct oc : Value} {an od : Option Addr} {osl : Array (Option Value)} {f : Addr} {args : Args} {binds : List (Str × Value)}
    (B : Below A₀ base outer h₀) (F : Fr h₀ L s.heap m) (X₀ : K.In h₀) (N : News h₀ L s.heap (mine ++ rest)) (hdis : ∀ p ∈ rest, ∀ q ∈ mine, p.1 ≠ q.1) (T : Top p loose mean mg mb h₀) (hA : A.frames = some (env :: outer)) (hf : env.frame = some L) (hke : env.scope.kind = .function)
    (ho : K.lookup f = some ⟨oc, od, .func (fnOf name qual params body scope dV kV doc pm an cdv ct), osl⟩) (hcd : codeIn K cdv qual = true) (hroom : A.depth < recursionLimit)
    (hbind : BindsTo s (fnOf name qual params body scope dV kV doc pm an cdv ct) args binds) (hloc : ∀ y ∈ binds, scope.names.lookup y.1 = some .local)
    (h : ∀ g L' h₁, Fr h₀ L g m → Fr g L' h₁ (fun y => binds.reverse.lookup y) → News g L' h₁ mine → Below A base (env :: outer) g → K.In g → Top p loose mean mg mb g → (∀ p ∈ rest, g.get? p.1 = some p.2) → (∀ p ∈ rest, p.1 < L') →
      wpAny (model prog w) (A.deeper (envOf qual scope L' f cdv)) (execs body (envOf qual scope L' f cdv))
        (fun fl s' => LeaveK h₀ L m g (fun r s' => News h₀ L s'.heap rest → R r s') (match fl with | .ret v => v | _ => .none) s')
        (fun e s' => wpAny (model prog w) (A.deeper (envOf qual scope L' f cdv)) (leaving (envOf qual scope L' f cdv) e) (fun _ s'' => R (.error e) s'') (fun e' s'' => R (.error e') s'') s')
        { s with heap := h₁, toks := s.toks + binds.length })
    (hco : scope.isCoroutine = false) (hgen : scope.isGenerator = false) (hk : scope.kind = .function)
    (hcell : ∀ x ∈ scope.names, x.2 ≠ .cell) : codeAny (model prog w) A (.call (.ref f) args) R s := by
  have Nm : News h₀ L s.heap mine := fun p hp => N p (List.mem_append_left _ hp)
  have Nr : News h₀ L s.heap rest := fun p hp => N p (List.mem_append_right _ hp)
  obtain ⟨FG, BG, st, lv⟩ := groundX (R := R) B F Nm hA hf hke
  have hg : ∀ p ∈ rest, (hideAll s.heap (mine.map (·.1))).get? p.1 = some p.2 := fun p hp => hideAll_get _ (Nr p hp).1 fun q => by
    obtain ⟨x, hx, e⟩ := List.mem_map.mp q
    exact hdis p hp x hx e.symm
  refine codeAny_call_def (fd := fnX name qual params body scope [] dV kV doc pm an cdv ct) (body := body) (binds := binds) hroom ((X₀.keeps F.keep) _ _ ho) rfl (T.nolimit.keeps F.keep) (codeRec_of (X₀.keeps F.keep) hcd) rfl hbind hcell hloc (fun h₁ hns hk₁ => ?_) hco hgen hk
  refine wpAny_mono (h _ s.heap.objs.size h₁ FG ⟨hns, fun b o e => hk₁ b o (of_hideAll _ e), Nat.le_of_eq (hideAll_size _ _)⟩
    (fun p hp => ⟨hk₁ _ _ (Nm p hp).1, Nat.ne_of_lt (Heap.lt_size (Nm p hp).1), hideAll_none _ (List.mem_map_of_mem hp)⟩) BG (X₀.keeps st) (T.keeps st) hg fun p hp => Heap.lt_size (Nr p hp).1) (fun fl s' hl => lv _ _ ?_) fun _ _ y => y
  obtain ⟨L', m', news', F', N', k⟩ := hl
  exact ⟨L', m', news', F', N', fun a b => k a b fun p hp => ⟨F'.keep _ _ (hg p hp), (Nr p hp).2.1, (Nr p hp).2.2⟩⟩
/-- the ledger less one address -/
def less (a : Nat) (l : List (Addr × Obj)) : List (Addr × Obj) := l.filter fun p => decide (p.1 ≠ a)
theorem less_ne {a : Nat} {l : List (Addr × Obj)} : ∀ p ∈ less a l, p.1 ≠ a := fun p hp => by
  have := (List.mem_filter.mp hp).2
  simpa using this
theorem less_sub {a : Nat} {l : List (Addr × Obj)} : ∀ p ∈ less a l, p ∈ l := fun p hp => (List.mem_filter.mp hp).1
theorem news_refill {h₀ h h' : Heap} {L a : Nat} {o : Obj} {l : List (Addr × Obj)} (N : News h₀ L h l) (hm : (a, o) ∈ l) (N1 : News h₀ L h' (less a l)) (N2 : News h₀ L h' [(a, o)]) : News h₀ L h' l := fun p hp => by
  by_cases c : p.1 = a
  · have e : p = (a, o) := by
      have h1 := (N p hp).1
      have h2 := (N _ hm).1
      rw [c, h2] at h1
      cases h1
      exact Prod.ext c rfl
    rw [e]; exact N2 _ (.head _)
  · exact N1 p (List.mem_filter.mpr ⟨hp, by simpa using c⟩)
/-- a for over the items of lists, by what holds of the items that are left -/
theorem items_loop {prog : Program} {w : World} {A : Around} {E : Value → Shared → Prop} {h₀ : Heap} {env : Env} {target : PySem.Expr} {body : List Stmt} {Q : Flow → Shared → Prop} {s : Shared} {ws : List (Addr × String)} {keep : List (Addr × Obj)}
    (Inv : List Itm → (Str → Option Value) → List (Addr × Obj) → Prop)
    (turn : ∀ a r m news v h tk, Inv (a :: r) m news → a.Is v h → Fr h₀ env.locals h m → AllObj ws (fun its => News h₀ env.locals h (its ++ news) →
      wpAny (model prog w) A (assign target env v) (fun _ s₂ => wpAny (model prog w) A (execs body env) (UnrPostW h₀ env.locals { s with heap := h, toks := tk } its (fun m' n' => SubL keep n' ∧ Inv r m' n') Q) E s₂) E { s with heap := h, toks := tk }))
    (last : ∀ m news h tk, Inv [] m news → Fr h₀ env.locals h m → News h₀ env.locals h news → Q .next { s with heap := h, toks := tk }) :
    ∀ items m news, Inv items m news → ItemsRest prog w A E h₀ env target body Q s ws keep items m news := by
  intro items
  induction items with
  | nil => intro m news hI h tk F N; exact last m news h tk hI F N
  | cons a r ih =>
    intro m news hI v h tk hv F
    have ht := turn a r m news v h tk hI hv F
    clear hI hv F
    have mono : ∀ (ws : List (Addr × String)) (k k' : List (Addr × Obj) → Prop), (∀ its, k its → k' its) → AllObj ws k → AllObj ws k' := by
      intro ws
      induction ws with
      | nil => intro k k' hk h; exact hk _ h
      | cons x r ih => intro k k' hk h o ho; exact ih _ _ (fun its => hk _) (h o ho)
    refine mono _ _ _ (fun its hk hN => ?_) ht
    refine wpAny_mono (hk hN) (fun _ s₂ h₂ => wpAny_mono h₂ (fun f s₃ h₃ => ?_) fun _ _ e => e) fun _ _ e => e
    cases f with
    | ret u => exact h₃
    | brk => exact h₃
    | next => obtain ⟨h', tk', m', n', a1, a2, a3, a4, a5, a6⟩ := h₃; exact ⟨h', tk', m', n', a1, a2, a3, a4, a5, ih _ _ a6⟩
    | cont => obtain ⟨h', tk', m', n', a1, a2, a3, a4, a5, a6⟩ := h₃; exact ⟨h', tk', m', n', a1, a2, a3, a4, a5, ih _ _ a6⟩
/-- a for: the walk stops -/
theorem stop_for {prog : Program} {w : World} {A : Around} {E : Value → Shared → Prop} {s : Shared} {env : Env} {t i : PySem.Expr} {b o : List Stmt} {pos : Pos} {Q : Flow → Shared → Prop}
    (h : Stop (wpAny (model prog w) A (exec (.For t i b o pos) env) Q E s)) : wpAny (model prog w) A (exec (.For t i b o pos) env) Q E s := h
theorem len_led {prog : Program} {w : World} {A : Around} {E : Value → Shared → Prop} {s : Shared} {h₀ : Heap} {L l : Addr} {news : List (Addr × Obj)} {vs : List Value} {n : Nat} {Q : Value → Shared → Prop} (N : News h₀ L s.heap news) (hm : (l, listOf vs.toArray n) ∈ news) (hz : vs.length ≤ 1000000)
    (h : Q (.int vs.length (s.toks + 1)) { s with toks := s.toks + 1 + 1 }) : wpAny (model prog w) A (call (.builtin "len") [.ref l]) Q E s := by
  refine len_list (N.isList hm) ?_ ?_
  · rw [List.size_toArray]; omega
  · rw [List.size_toArray]; exact h
theorem pop_first {prog : Program} {w : World} {A : Around} {E : Value → Shared → Prop} {s : Shared} {h₀ : Heap} {L D : Addr} {m : Str → Option Value} {news news' : List (Addr × Obj)} {v : Value} {vs : List Value} {n : Nat} {u : Tok} {Q : Value → Shared → Prop}
    (F : Fr h₀ L s.heap m) (N : News h₀ L s.heap news) (U : Upd D (listOf (v :: vs).toArray n) (listOf vs.toArray (n + 1)) news news') (hz : vs.length ≤ 100000)
    (h : ∀ h', Fr h₀ L h' m → News h₀ L h' news' → Q v { s with heap := h' }) : wpAny (model prog w) A (call (.builtin "list.pop") [.ref D, .int 0 u]) Q E s := by
  refine kl_popAt (its := (v :: vs).toArray) (k := 0) (p := []) (q := vs) (y := v) F N rfl ?_ rfl U ?_ h
  · unfold seqIndex?
    simp
  · rw [sizeLine_eq]; simp; omega
theorem fill (w : World) (h : Heap) : (Mine.hd.heap_1 w.params).In h → Challenge.rw_sm0001_01.row.prog = Challenge.rw_sm0001_01.row.prog := by
  k_fill
  intro _; rfl
local macro_rules | `(tactic| walk_at $s:str) => `(tactic| k_extra $s)
local macro_rules | `(tactic| k_room) => `(tactic| ((try simp only [depth_under_make, depth_under_kw, depth_in1, depth_deeper, depth_caller]); (try dsimp only); first | decide | omega))
local macro_rules | `(tactic| k_all) => `(tactic| first | assumption | exact ne_of_allLt (by assumption))
theorem wd_A_1 : True := by
  k_with "exec While" => (k_here; k_dflt (refine stop_while ?_))
  k_with "exec While BoolOp" => (k_here; k_dflt (refine stop_while ?_))
  k_with "exec While Compare" => (k_here; k_dflt (refine stop_while ?_))
  k_with "TurnEnd" => (dsimp only [TurnEnd])
  k_with "eval Name" => (k_here; k_dflt (refine' ld ?w9k1 ?w9k2 ?_; (case w9k1 => k_asm); (case w9k2 => (repeat refine Eq.trans (if_neg (by decide)) ?_); first | assumption | exact if_pos rfl); k_whole))
  k_with "loadName" => (k_here; k_dflt (refine' ldn ?w9k1 ?w9k2 ?_; (case w9k1 => k_asm); (case w9k2 => (repeat refine Eq.trans (if_neg (by decide)) ?_); first | assumption | exact if_pos rfl); k_whole))
  k_with "exec While Name" => (k_here; k_dflt (refine stop_while ?_))
  k_with "exec While Name cons nil" => (k_here; k_dflt (refine stop_while ?_))
  k_with "last exec While" => (k_here; k_dflt (refine stop_while ?_))
  trivial
local macro_rules | `(tactic| k_mem) => `(tactic| first | with_reducible assumption | exact List.Mem.head _ | (refine' List.mem_cons_of_mem _ ?_; k_mem))
theorem wd_A_2 : True := by
  k_with "exec For" => (k_here; k_dflt (refine stop_for ?_))
  k_with "exec For Tuple" => (k_here; k_dflt (refine stop_for ?_))
  k_with "exec For Tuple Call" => (k_here; k_dflt (refine stop_for ?_))
  k_with "exec For Tuple Call cons nil" => (k_here; k_dflt (refine stop_for ?_))
  k_with "exec For Name" => (k_here; k_dflt (refine stop_for ?_))
  k_with "exec For Name Name" => (k_here; k_dflt (refine stop_for ?_))
  k_with "exec For Name Name cons nil" => (k_here; k_dflt (refine stop_for ?_))
  k_with "exec For Name Call" => (k_here; k_dflt (refine stop_for ?_))
  k_with "exec For Name Call cons nil" => (k_here; k_dflt (refine stop_for ?_))
  k_with "call builtin:len" => (k_here; (with_reducible show wpAny _ _ (call (Value.builtin "len") [Value.ref _]) _ _ _); k_dflt (refine' len_led ?w9N ?w9m ?w9z ?_; (case w9N => k_asm); (case w9m => k_mem); (case w9z => omega); k_whole))
  k_with "call builtin:list.pop" => (k_here; (with_reducible show wpAny _ _ (call (Value.builtin _) [Value.ref _, Value.int _ _]) _ _ _); k_dflt (refine' pop_first ?w9F ?w9N ?w9U ?w9z ?_; (case w9F => k_asm); (case w9N => k_asm); (case w9U => k_upd); (case w9z => omega); k_whole); (intro h_w F_w N_w); (try k_sweep))
  k_with "leaving ref" => (k_here; first
      | (refine' leave_raiseS ?w9k1 ?w9k0 ?w9k2 ?w9k3 ?_; (case w9k0 => first | assumption | exact Heap.MadeExc.of (by assumption)); (case w9k2 => assumption); (case w9k1 => assumption); (case w9k3 => k_asm); k_whole; intro h_w t_w S_w R_w U_w; (try dsimp only at S_w R_w U_w ⊢))
      | (refine' leave_onS ?w9k1 ?w9k2 ?w9k3 ?w9k4 ?_; (case w9k3 => assumption); (case w9k1 => assumption); (case w9k4 => assumption); (case w9k2 => assumption); k_whole; intro h_w S_w R_w U_w; (try dsimp only at S_w R_w U_w ⊢)))
  trivial
theorem off_Ct1 : True := by
  w_top off
  trivial
section
variable {w : World} {hd : Option Value} {dp un : Nat} {gd : Option (List Code)} {env : Env} {outer : List Env} {A₀ : Around} {base h₀ : Heap} {L : Addr} {m : Str → Option Value}
    {p : Program} {loose : List Str} {mean : ExcName → Option Value} {mg mb : Str → Option Value} {s : Shared} {R : Result → Shared → Prop}
    {rest : List (Addr × Obj)}
theorem given_spec {W S : Nat} {i many : Int} {tk tm n c : Nat} {vs : Array Value} {ns : List Int}
    (H : Here w A₀ base outer h₀ L m p loose mean mg mb env s)
    (N : News h₀ L s.heap ((W, listOf #[.ref S, .int i tk] n) :: (S, listOf vs c) :: rest))
    (hdp : dp + 10 < recursionLimit)
    (hI : IntsAre vs.toList ns) (hns : ns.length ≤ 100) (hi : 0 ≤ i) (hi2 : i < 1000) (hm : 1 ≤ many) (hm2 : many ≤ 10) (hWS : W ≠ S) (hW : ∀ p ∈ rest, p.1 ≠ W)
    (post : ∀ r tk tk' tk'' h', 0 ≤ r → r < many → Fr h₀ L h' m → News h₀ L h' ((W, listOf #[.ref S, .int (i + 1) tk'] n) :: (S, listOf vs c) :: rest) → R (.ok (.ret (.int r tk))) { s with heap := h', toks := tk'' }) :
    codeAny (model Challenge.rw_sm0001_01.row.prog w) (At none dp un gd env outer) (.call (.ref 163) ⟨[.ref W, .int many tm], []⟩) R s := by
  obtain ⟨B, F, X, T, hf, hke⟩ := H
  refine' code_def (A := At none dp un gd env outer) (env := env) (outer := outer) B F X N T rfl hf hke ?k6 ?k7 ?hroom ?k9 ?kB ?_ ?c2 ?c3 ?c4 ?c5
  case k6 => k_dflt k_is
  case k7 => k_dflt k_is
  case hroom => k_room
  case k9 => exact BindsTo.of_eq rfl
  case c5 => decide
  case kB => exact locs rfl
  case c2 => exact rfl
  case c3 => exact rfl
  case c4 => exact rfl
  intro g' L' h' FG' F' N' B' X' T'
  dsimp only
  k_fold
  k_steps
  · refine post _ _ _ _ _ ?_ ?_ (by assumption) (by assumption)
    · exact Int.fmod_nonneg_of_pos _ (by omega)
    · exact Int.fmod_lt_of_pos _ (by omega)
  · refine post _ _ _ _ _ ?_ ?_ (by assumption) (by assumption)
    · exact Int.fmod_nonneg_of_pos _ (by omega)
    · exact Int.fmod_lt_of_pos _ (by omega)
end
theorem off_Ct2 : True := by
  w_top off
  trivial
section
variable {w : World} {hd : Option Value} {dp un : Nat} {gd : Option (List Code)} {env : Env} {outer : List Env} {A₀ : Around} {base h₀ : Heap} {L : Addr} {m : Str → Option Value}
    {p : Program} {loose : List Str} {mean : ExcName → Option Value} {mg mb : Str → Option Value} {s : Shared} {R : Result → Shared → Prop}
    {rest : List (Addr × Obj)}
/-- is there a blank at the place -/
def isBlankAt (x : Str) (i : Int) : Bool := !(Builtin.Str.occurrences (Str.ofString " \t") (Txt.item x i) 0 (Str.ofString " \t").length 1).isEmpty
def blankEndF (x : Str) : Nat → Int → Int
  | 0, i => i
  | k + 1, i => if i < x.length ∧ isBlankAt x i = true then blankEndF x k (i + 1) else i
def blankEnd (x : Str) (i : Int) : Int := blankEndF x (x.length - i).toNat i
theorem blankEnd_step {x : Str} {i : Int} (h : i < (x.length : Int)) (hb : isBlankAt x i = true) : blankEnd x i = blankEnd x (i + 1) := by
  unfold blankEnd
  have e : ((x.length : Int) - i).toNat = ((x.length : Int) - (i + 1)).toNat + 1 := by omega
  rw [e, blankEndF, if_pos ⟨h, hb⟩]
theorem blankEnd_stop {x : Str} {i : Int} (h : ¬ (i < x.length ∧ isBlankAt x i = true)) : blankEnd x i = i := by
  unfold blankEnd
  cases (x.length - i).toNat with
  | zero => rfl
  | succ n => rw [blankEndF, if_neg h]
theorem blankEndF_bounds {x : Str} : ∀ (k : Nat) (i : Int), 0 ≤ i → i ≤ x.length → i ≤ blankEndF x k i ∧ blankEndF x k i ≤ x.length
  | 0, i, h0, h1 => ⟨Int.le_refl _, h1⟩
  | k + 1, i, h0, h1 => by
    rw [blankEndF]
    by_cases c : i < x.length ∧ isBlankAt x i = true
    · rw [if_pos c]
      have := blankEndF_bounds (x := x) k (i + 1) (by omega) (by omega)
      omega
    · rw [if_neg c]; omega
theorem blankEnd_bounds {x : Str} {i : Int} (h0 : 0 ≤ i) (h1 : i ≤ x.length) : i ≤ blankEnd x i ∧ blankEnd x i ≤ x.length := blankEndF_bounds _ i h0 h1
theorem blank_end_spec {x : Str} {i : Int} {tx ti : Nat}
    (H : Here w A₀ base outer h₀ L m p loose mean mg mb env s)
    (N : News h₀ L s.heap rest)
    (hdp : dp + 10 < recursionLimit) (hx : x.length ≤ 100) (hi : 0 ≤ i) (hi2 : i ≤ x.length)
    (post : ∀ tk tk'' h', Fr h₀ L h' m → News h₀ L h' rest → R (.ok (.ret (.int (blankEnd x i) tk))) { s with heap := h', toks := tk'' }) :
    codeAny (model Challenge.rw_sm0001_01.row.prog w) (At none dp un gd env outer) (.call (.ref 71) ⟨[.str x tx, .int i ti], []⟩) R s := by
  obtain ⟨B, F, X, T, hf, hke⟩ := H
  refine' code_def (A := At none dp un gd env outer) (env := env) (outer := outer) B F X N T rfl hf hke ?k6 ?k7 ?hroom ?k9 ?kB ?_ ?c2 ?c3 ?c4 ?c5
  case k6 => k_dflt k_is
  case k7 => k_dflt k_is
  case hroom => k_room
  case k9 => exact BindsTo.of_eq rfl
  case c5 => decide
  case kB => exact locs rfl
  case c2 => exact rfl
  case c3 => exact rfl
  case c4 => exact rfl
  intro g' L' h' FG' F' N' B' X' T'
  dsimp only
  k_fold
  k_steps
  unfold Stop
  obtain ⟨M, hM, F0⟩ := fr_open F'
  refine whl_loop (s := s) (fun (c : Int) h => 0 ≤ c ∧ c ≤ x.length ∧ blankEnd x c = blankEnd x i ∧ (∃ M t, Fr g' L' h M ∧ M (Str.ofString "text") = some (.str x tx) ∧ M (Str.ofString "at") = some (.int c t)) ∧ News g' L' h rest)
    (fun c => (x.length - c).toNat) ?hE ?turn i ⟨hi, hi2, rfl, ⟨M, _, F0, by rw [hM]; rfl, by rw [hM]; rfl⟩, N'⟩
  case hE => first | passes_own | with_unfolding_all passes_own
  case turn =>
    clear F0 hM F' N'
    rintro j h tk ⟨hj0, hj1, hbe, ⟨M', tj, FM, hMt, hMa⟩, N'⟩
    k_steps
    · have e : blankEnd x i = j := by rw [← hbe]; exact blankEnd_stop (fun c => by have := c.2; unfold isBlankAt at this; simp_all)
      have q := post tj tk h (by assumption) (by assumption)
      rw [e] at q; exact q
    · unfold Stop
      refine ⟨j + 1, _, _, rfl, by omega, by omega, by omega, ?_, ⟨_, _, by assumption, Eq.trans (if_neg ?r0) hMt, if_pos rfl⟩, by assumption⟩
      case r0 => decide
      rw [← hbe]; exact (blankEnd_step (by assumption) (by unfold isBlankAt; simp_all)).symm
    · have e : blankEnd x i = j := by rw [← hbe]; exact blankEnd_stop (fun c => by have := c.1; omega)
      have q := post tj tk h (by assumption) (by assumption)
      rw [e] at q; exact q
end
theorem wd_A_3 : True := by
  k_with "call ref" => (k_here; (with_reducible show wpAny _ _ (call (Value.ref 71) _) _ _ _); refine wpAny_call ?_; k_dflt (refine' blank_end_spec ⟨?w9hB, ?w9hF, ?w9hX, ?w9hT, ?w9hf, ?w9hk⟩ ?w9hN ?w9hd ?w9hx ?w9h0 ?w9h1 ?_; (case w9hF => k_asm); (case w9hB => k_asm); (case w9hX => k_asm); (case w9hT => k_asm); (case w9hf => first | exact rfl | assumption); (case w9hk => first | exact rfl | assumption); (case w9hN => k_asm); (case w9hd => k_room); (case w9hx => first | assumption | omega); (case w9h0 => omega); (case w9h1 => omega); k_whole); intro tk_w tk_w_w h_w F_w N_w; (try k_sweep))
  trivial
theorem off_Ct3 : True := by
  w_top off
  trivial
section
variable {w : World} {hd : Option Value} {dp un : Nat} {gd : Option (List Code)} {env : Env} {outer : List Env} {A₀ : Around} {base h₀ : Heap} {L : Addr} {m : Str → Option Value}
    {p : Program} {loose : List Str} {mean : ExcName → Option Value} {mg mb : Str → Option Value} {s : Shared} {R : Result → Shared → Prop}
    {rest : List (Addr × Obj)}
theorem quote_is : Str.ofString "\"" = ⟨#[34]⟩ := by decide +kernel
theorem comma_is : Str.ofString "," = ⟨#[44]⟩ := by decide +kernel
theorem find3_bounds {x y : Str} {c : Nat} {i : Int} (hy : y = ⟨#[c]⟩) : -1 ≤ Txt.find3 x y i ∧ Txt.find3 x y i + 1 ≤ x.length := by
  subst hy
  rcases StrLaws.find3_spec x c i with ⟨h, _⟩ | ⟨k, h, _, hk, _⟩
  · rw [h]; omega
  · rw [h]; omega
theorem find3_from {x y : Str} {c : Nat} {i : Int} (hy : y = ⟨#[c]⟩) (h0 : 0 ≤ i) (h1 : i ≤ (x.length : Int)) (hf : ¬ Txt.find3 x y i < 0) : i ≤ Txt.find3 x y i := by
  subst hy
  rcases StrLaws.find3_spec x c i with ⟨h, _⟩ | ⟨k, h, hk, _⟩
  · rw [h] at hf; omega
  · rw [h]
    have e : ((PySem.fromIndex x.length i : Nat) : Int) = i := by
      unfold PySem.fromIndex
      omega
    omega
open PySem.Builtin.Str in
theorem slice_at_end (x : Str) : (Txt.slice x (some (x.length : Int)) (some ((x.length : Int) + 1))).length = 0 := by
  have hn : (strSliceIndices (some (x.length : Int)) (some ((x.length : Int) + 1)) 1 x.length) = [] := by
    unfold strSliceIndices sliceRange
    have h1 : ¬ ((x.length : Int) < 0) := by omega
    have h2 : ¬ ((x.length : Int) + 1 < 0) := by omega
    have h3 : min ((x.length : Int) + 1) x.length = x.length := by omega
    simp [h1, h2, h3]
  unfold Txt.slice
  rw [hn]
  by_cases h : x.length = 0
  · simp [h]
  · rw [if_neg (by simp; omega)]
    simp [Str.length]
theorem slice_quote {x : Str} {b : Int} (hb2 : b ≤ (x.length : Int)) (h : (Txt.slice x (some b) (some (b + 1)) == Str.ofString "\"") = true) : b < x.length := by
  false_or_by_contra
  rename_i hn
  have e : b = x.length := by omega
  have hs := beq_iff_eq.mp h
  rw [quote_is, e] at hs
  have hl := slice_at_end x
  rw [hs] at hl
  cases hl
/-- what quoted_field gives -/
def quoted (x : Str) (i : Int) : Str × Int :=
  if Txt.find3 x (Str.ofString "\"") (i + 1) < 0 then (Txt.slice x (some (i + 1)) none, (x.length : Int))
  else (Txt.slice x (some (i + 1)) (some (Txt.find3 x (Str.ofString "\"") (i + 1))), blankEnd x (Txt.find3 x (Str.ofString "\"") (i + 1) + 1))
theorem quoted_bounds {x : Str} {i : Int} (h0 : 0 ≤ i) (h1 : i < (x.length : Int)) : i < (quoted x i).2 ∧ (quoted x i).2 ≤ x.length ∧ (quoted x i).1.length ≤ x.length := by
  have hb := find3_bounds (x := x) (i := i + 1) quote_is
  unfold quoted
  by_cases c : Txt.find3 x (Str.ofString "\"") (i + 1) < 0
  · rw [if_pos c]; exact ⟨h1, Int.le_refl _, Txt.slice_le ..⟩
  · rw [if_neg c]
    have hf := find3_from quote_is (by omega) (by omega) c
    have he := blankEnd_bounds (x := x) (i := Txt.find3 x (Str.ofString "\"") (i + 1) + 1) (by omega) (by omega)
    exact ⟨by dsimp only; omega, he.2, Txt.slice_le ..⟩
abbrev tupO (vs : Array Value) : Obj := { cls := .type "tuple", data := .seq vs }
theorem quoted_field_spec {x : Str} {i : Int} {tx ti : Nat}
    (H : Here w A₀ base outer h₀ L m p loose mean mg mb env s)
    (N : News h₀ L s.heap rest)
    (hdp : dp + 20 < recursionLimit) (hx : x.length ≤ 100) (hi : 0 ≤ i) (hi2 : i < x.length)
    (post : ∀ (D : Nat) t1 t2 tk'' h', (i < (quoted x i).2 ∧ (quoted x i).2 ≤ x.length) → (∀ q ∈ rest, q.1 < D) → Fr h₀ L h' m → News h₀ L h' ((D, tupO #[.str (quoted x i).1 t1, .int (quoted x i).2 t2]) :: rest) → R (.ok (.ret (.ref D))) { s with heap := h', toks := tk'' }) :
    codeAny (model Challenge.rw_sm0001_01.row.prog w) (At none dp un gd env outer) (.call (.ref 78) ⟨[.str x tx, .int i ti], []⟩) R s := by
  obtain ⟨B, F, X, T, hf, hke⟩ := H
  refine' code_def (A := At none dp un gd env outer) (env := env) (outer := outer) B F X N T rfl hf hke ?k6 ?k7 ?hroom ?k9 ?kB ?_ ?c2 ?c3 ?c4 ?c5
  case k6 => k_dflt k_is
  case k7 => k_dflt k_is
  case hroom => k_room
  case k9 => exact BindsTo.of_eq rfl
  case c5 => decide
  case kB => exact locs rfl
  case c2 => exact rfl
  case c3 => exact rfl
  case c4 => exact rfl
  intro g' L' h' FG' F' N' B' X' T'
  dsimp only
  k_fold
  have hb := find3_bounds (x := x) (i := i + 1) quote_is
  have hqb := quoted_bounds hi hi2
  have hqb := And.intro hqb.1 hqb.2.1
  k_steps
  · have e : quoted x i = (Txt.slice x (some (i + 1)) none, (x.length : Int)) := by unfold quoted; rw [if_pos (by assumption)]
    rw [e] at post hqb
    exact post _ _ _ _ _ hqb (by assumption) (by assumption) (by assumption)
  · have e : quoted x i = (Txt.slice x (some (i + 1)) (some (Txt.find3 x (Str.ofString "\"") (i + 1))), blankEnd x (Txt.find3 x (Str.ofString "\"") (i + 1) + 1)) := by unfold quoted; rw [if_neg (by assumption)]
    rw [e] at post hqb
    exact post _ _ _ _ _ hqb (by assumption) (by assumption) (by assumption)
end
theorem wd_A_4 : True := by
  k_with "call ref" => (k_here; (with_reducible show wpAny _ _ (call (Value.ref 78) _) _ _ _); refine wpAny_call ?_; k_dflt (refine' quoted_field_spec ⟨?w9hB, ?w9hF, ?w9hX, ?w9hT, ?w9hf, ?w9hk⟩ ?w9hN ?w9hd ?w9hx ?w9h0 ?w9h1 ?_; (case w9hF => k_asm); (case w9hB => k_asm); (case w9hX => k_asm); (case w9hT => k_asm); (case w9hf => first | exact rfl | assumption); (case w9hk => first | exact rfl | assumption); (case w9hN => k_asm); (case w9hd => k_room); (case w9hx => first | assumption | omega); (case w9h0 => omega); (case w9h1 => first | omega | exact slice_quote (by omega) (by assumption)); k_whole); intro D_w t1_w t2_w tk_w_w h_w hq_w l1_w F_w N_w; (try k_lt l1_w); (try k_sweep))
  trivial
theorem off_Ct4 : True := by
  w_top off
  trivial
section
variable {w : World} {hd : Option Value} {dp un : Nat} {gd : Option (List Code)} {env : Env} {outer : List Env} {A₀ : Around} {base h₀ : Heap} {L : Addr} {m : Str → Option Value}
    {p : Program} {loose : List Str} {mean : ExcName → Option Value} {mg mb : Str → Option Value} {s : Shared} {R : Result → Shared → Prop}
    {rest : List (Addr × Obj)}
/-- what field_at gives -/
def fieldAt (x : Str) (i : Int) : Option Str × Int × Bool :=
  if (Txt.slice x (some (blankEnd x i)) (some (blankEnd x i + 1)) == Str.ofString "\"") = true then
    (if (quoted x (blankEnd x i)).2 = (x.length : Int) ∨ (Txt.item x (quoted x (blankEnd x i)).2 == Str.ofString ",") = true then some (quoted x (blankEnd x i)).1 else none, (quoted x (blankEnd x i)).2, true)
  else if Txt.find3 x (Str.ofString ",") (blankEnd x i) < 0 then (some (Txt.rstripChars (Txt.slice x (some (blankEnd x i)) (some (x.length : Int))) (Str.ofString " \t")), (x.length : Int), false)
  else (some (Txt.rstripChars (Txt.slice x (some (blankEnd x i)) (some (Txt.find3 x (Str.ofString ",") (blankEnd x i)))) (Str.ofString " \t")), Txt.find3 x (Str.ofString ",") (blankEnd x i), false)
/-- a value that is a text or None -/
def OptV (o : Option Str) (v : Value) : Prop := match o with
  | some y => ∃ t, v = .str y t
  | none => v = .none
theorem optV_cases {o : Option Str} {v : Value} (h : OptV o v) : (o = none ∧ v = .none) ∨ ∃ y t, o = some y ∧ v = .str y t := by
  cases o with
  | none => exact .inl ⟨rfl, h⟩
  | some y => obtain ⟨t, e⟩ := h; exact .inr ⟨y, t, rfl, e⟩
theorem field_at_spec {x : Str} {i : Int} {tx ti : Nat}
    (H : Here w A₀ base outer h₀ L m p loose mean mg mb env s)
    (N : News h₀ L s.heap rest)
    (hdp : dp + 30 < recursionLimit) (hx : x.length ≤ 100) (hi : 0 ≤ i) (hi2 : i ≤ x.length)
    (post : ∀ (D : Nat) v t2 tk'' h', OptV (fieldAt x i).1 v → (∀ q ∈ rest, q.1 < D) → Fr h₀ L h' m → News h₀ L h' ((D, tupO #[v, .int (fieldAt x i).2.1 t2, .bool (fieldAt x i).2.2]) :: rest) → R (.ok (.ret (.ref D))) { s with heap := h', toks := tk'' }) :
    codeAny (model Challenge.rw_sm0001_01.row.prog w) (At none dp un gd env outer) (.call (.ref 85) ⟨[.str x tx, .int i ti], []⟩) R s := by
  obtain ⟨B, F, X, T, hf, hke⟩ := H
  refine' code_def (A := At none dp un gd env outer) (env := env) (outer := outer) B F X N T rfl hf hke ?k6 ?k7 ?hroom ?k9 ?kB ?_ ?c2 ?c3 ?c4 ?c5
  case k6 => k_dflt k_is
  case k7 => k_dflt k_is
  case hroom => k_room
  case k9 => exact BindsTo.of_eq rfl
  case c5 => decide
  case kB => exact locs rfl
  case c2 => exact rfl
  case c3 => exact rfl
  case c4 => exact rfl
  intro g' L' h' FG' F' N' B' X' T'
  dsimp only
  k_fold
  have hb := blankEnd_bounds hi hi2
  have hc := find3_bounds (x := x) (i := blankEnd x i) comma_is
  k_steps
  · have e : fieldAt x i = (some (quoted x (blankEnd x i)).1, (quoted x (blankEnd x i)).2, true) := by
      unfold fieldAt; rw [if_pos (by assumption), if_pos (.inl (by assumption))]
    rw [e] at post
    exact post _ _ _ _ _ ⟨_, rfl⟩ (lt_of_and (by assumption)) (by assumption) (news_drop2 (by assumption))
  · have e : fieldAt x i = (some (quoted x (blankEnd x i)).1, (quoted x (blankEnd x i)).2, true) := by
      unfold fieldAt; rw [if_pos (by assumption), if_pos (.inr (by assumption))]
    rw [e] at post
    exact post _ _ _ _ _ ⟨_, rfl⟩ (lt_of_and (by assumption)) (by assumption) (news_drop2 (by assumption))
  · have e : fieldAt x i = (none, (quoted x (blankEnd x i)).2, true) := by
      unfold fieldAt; rw [if_pos (by assumption), if_neg]
      rintro (c | c)
      · exact absurd c (by assumption)
      · simp_all
    rw [e] at post
    exact post _ _ _ _ _ rfl (lt_of_and (by assumption)) (by assumption) (news_drop2 (by assumption))
  · have e : fieldAt x i = (some (Txt.rstripChars (Txt.slice x (some (blankEnd x i)) (some (x.length : Int))) (Str.ofString " \t")), (x.length : Int), false) := by
      unfold fieldAt; rw [if_neg (by simp_all), if_pos (by assumption)]
    rw [e] at post
    exact post _ _ _ _ _ ⟨_, rfl⟩ (by assumption) (by assumption) (by assumption)
  · have e : fieldAt x i = (some (Txt.rstripChars (Txt.slice x (some (blankEnd x i)) (some (Txt.find3 x (Str.ofString ",") (blankEnd x i)))) (Str.ofString " \t")), Txt.find3 x (Str.ofString ",") (blankEnd x i), false) := by
      unfold fieldAt; rw [if_neg (by simp_all), if_neg (by assumption)]
    rw [e] at post
    exact post _ _ _ _ _ ⟨_, rfl⟩ (by assumption) (by assumption) (by assumption)
end
theorem wd_A_5 : True := by
  k_with "call ref" => (k_here; (with_reducible show wpAny _ _ (call (Value.ref 85) _) _ _ _); refine wpAny_call ?_; k_dflt (refine' field_at_spec ⟨?w9hB, ?w9hF, ?w9hX, ?w9hT, ?w9hf, ?w9hk⟩ ?w9hN ?w9hd ?w9hx ?w9h0 ?w9h1 ?_; (case w9hF => k_asm); (case w9hB => k_asm); (case w9hX => k_asm); (case w9hT => k_asm); (case w9hf => first | exact rfl | assumption); (case w9hk => first | exact rfl | assumption); (case w9hN => k_asm); (case w9hd => k_room); (case w9hx => first | assumption | omega); (case w9h0 => omega); (case w9h1 => omega); k_whole); intro D_w v_w t2_w tk_w_w h_w ho_w l1_w F_w N_w; (try k_lt l1_w); (try k_sweep); ((rcases optV_cases ho_w with ⟨e_w, ev_w⟩ | ⟨y_w, t_w, e_w, ev_w⟩) <;> subst ev_w))
  trivial
theorem off_Ct5 : True := by
  w_top off
  trivial
section
variable {w : World} {hd : Option Value} {dp un : Nat} {gd : Option (List Code)} {env : Env} {outer : List Env} {A₀ : Around} {base h₀ : Heap} {L : Addr} {m : Str → Option Value}
    {p : Program} {loose : List Str} {mean : ExcName → Option Value} {mg mb : Str → Option Value} {s : Shared} {R : Result → Shared → Prop}
    {rest : List (Addr × Obj)}
theorem fieldAt_bounds {x : Str} {i : Int} (h0 : 0 ≤ i) (h1 : i ≤ (x.length : Int)) : i ≤ (fieldAt x i).2.1 ∧ (fieldAt x i).2.1 ≤ x.length ∧ ∀ y, (fieldAt x i).1 = some y → y.length ≤ x.length := by
  have hb := blankEnd_bounds (x := x) h0 h1
  have hc := find3_bounds (x := x) (i := blankEnd x i) comma_is
  unfold fieldAt
  by_cases c : (Txt.slice x (some (blankEnd x i)) (some (blankEnd x i + 1)) == Str.ofString "\"") = true
  · rw [if_pos c]
    have hq := quoted_bounds (x := x) (i := blankEnd x i) (by omega) (slice_quote hb.2 c)
    refine ⟨by dsimp only; omega, hq.2.1, fun y hy => ?_⟩
    dsimp only at hy
    split at hy
    · cases hy; exact hq.2.2
    · cases hy
  · rw [if_neg c]
    by_cases c2 : Txt.find3 x (Str.ofString ",") (blankEnd x i) < 0
    · rw [if_pos c2]
      refine ⟨by dsimp only; omega, Int.le_refl _, fun y hy => ?_⟩
      cases hy
      exact Nat.le_trans (len_rstripChars _ _) (Txt.slice_le ..)
    · rw [if_neg c2]
      have hf := find3_from comma_is (by omega) hb.2 c2
      refine ⟨by dsimp only; omega, by dsimp only; omega, fun y hy => ?_⟩
      cases hy
      exact Nat.le_trans (len_rstripChars _ _) (Txt.slice_le ..)
/-- what told_fields gives: g is the reading of one field -/
def toldF (g : Int → Option Str × Int × Bool) (len : Int) : Nat → Int → List (Str × Bool) → Option (List (Str × Bool))
  | 0, _, acc => some acc
  | k + 1, i, acc => match (g i).1 with
    | none => none
    | some f => if (g i).2.1 < len then toldF g len k ((g i).2.1 + 1) (acc ++ [(f, (g i).2.2)]) else some (acc ++ [(f, (g i).2.2)])
theorem toldF_more {g : Int → Option Str × Int × Bool} {len : Int} (hg : ∀ i, 0 ≤ i → i ≤ len → i ≤ (g i).2.1 ∧ (g i).2.1 ≤ len) (k : Nat) :
    ∀ (k' : Nat) (i : Int) (acc : List (Str × Bool)), 0 ≤ i → i ≤ len → len + 1 ≤ i + k → len + 1 ≤ i + k' → toldF g len k i acc = toldF g len k' i acc := by
  induction k with
  | zero => intro k' i acc h0 h1 h2 h3; omega
  | succ k ih =>
    intro k' i acc h0 h1 h2 h3
    cases k' with
    | zero => omega
    | succ k' =>
      have hb := hg i h0 h1
      unfold toldF
      cases (g i).1 with
      | none => rfl
      | some f =>
        dsimp only
        by_cases c : (g i).2.1 < len
        · rw [if_pos c, if_pos c]
          exact ih k' _ _ (by omega) (by omega) (by omega) (by omega)
        · rw [if_neg c, if_neg c]
def toldFields (x : Str) : Option (List (Str × Bool)) := toldF (fieldAt x) x.length (x.length + 1) 0 []
def fieldD (f : Str × Bool) : Dat := .tuple [.str f.1, .bool f.2]
theorem told_news {g h : Heap} {L : Addr} {D D0 l : Addr} {t t0 : Obj} {vs : List Value} {n : Nat} {tl rest : List (Addr × Obj)}
    (N : News g L h ((D, t) :: (D0, t0) :: (l, listOf (vs.toArray.push (Value.ref D)) (n + 1)) :: (tl ++ rest))) : News g L h ((l, listOf (vs ++ [Value.ref D]).toArray (n + 1)) :: (((D, t) :: tl) ++ rest)) := by
  have e : vs.toArray.push (Value.ref D) = (vs ++ [Value.ref D]).toArray := by simp
  rw [e] at N
  intro p hp
  refine N p ?_
  simp only [List.mem_cons, List.mem_append, List.cons_append] at hp ⊢
  rcases hp with hp | hp | hp | hp <;> simp [hp]
theorem told_fields_spec {x : Str} {tx : Nat}
    (H : Here w A₀ base outer h₀ L m p loose mean mg mb env s)
    (N : News h₀ L s.heap rest)
    (hdp : dp + 40 < recursionLimit) (hx : x.length ≤ 100)
    (post : ∀ v tk'' h', (match toldFields x with
        | none => v = Value.none ∧ News h₀ L h' rest
        | some fs => ∃ (l : Nat) (vs : List Value) (n : Nat) (tl : List (Addr × Obj)), v = .ref l ∧ DatAll tl vs (fs.map fieldD) ∧ News h₀ L h' ((l, listOf vs.toArray n) :: (tl ++ rest)) ∧ (∀ q ∈ rest, q.1 < l) ∧ (∀ q ∈ tl, l < q.1) ∧ (∀ f ∈ fs, f.1.length ≤ 100) ∧ fs.length ≤ 101) →
      Fr h₀ L h' m → R (.ok (.ret v)) { s with heap := h', toks := tk'' }) :
    codeAny (model Challenge.rw_sm0001_01.row.prog w) (At none dp un gd env outer) (.call (.ref 92) ⟨[.str x tx], []⟩) R s := by
  obtain ⟨B, F, X, T, hf, hke⟩ := H
  refine' code_def (A := At none dp un gd env outer) (env := env) (outer := outer) B F X N T rfl hf hke ?k6 ?k7 ?hroom ?k9 ?kB ?_ ?c2 ?c3 ?c4 ?c5
  case k6 => k_dflt k_is
  case k7 => k_dflt k_is
  case hroom => k_room
  case k9 => exact BindsTo.of_eq rfl
  case c5 => decide
  case kB => exact locs rfl
  case c2 => exact rfl
  case c3 => exact rfl
  case c4 => exact rfl
  intro g' L' h' FG' F' N' B' X' T'
  dsimp only
  k_fold
  k_steps
  unfold Stop
  obtain ⟨M, hM, F0⟩ := fr_open (by assumption)
  rename News _ _ _ _ => N0
  obtain ⟨l, el⟩ := nm_second N0
  subst el
  have N1 := news_drop N0
  refine whl_loop (s := s) (fun (c : Int × Bool × List (Str × Bool)) h =>
      (c.2.1 = true → 0 ≤ c.1 ∧ c.1 ≤ x.length ∧ toldF (fieldAt x) x.length (x.length + 1 - c.1).toNat c.1 c.2.2 = toldFields x) ∧ (c.2.1 = false → toldFields x = some c.2.2) ∧
      c.2.2.length ≤ c.1 ∧ c.1 ≤ x.length + 1 ∧ (∀ f ∈ c.2.2, f.1.length ≤ 100) ∧
      ∃ M ti vs n tl, Fr g' L' h M ∧ M (Str.ofString "text") = some (.str x tx) ∧ M (Str.ofString "found") = some (.ref l) ∧ M (Str.ofString "at") = some (.int c.1 ti) ∧ M (Str.ofString "is_going") = some (.bool c.2.1) ∧
        DatAll tl vs (c.2.2.map fieldD) ∧ News g' L' h ((l, listOf vs.toArray n) :: (tl ++ rest)) ∧ (∀ q ∈ tl, l < q.1))
    (fun c => if c.2.1 = true then (x.length + 2 - c.1).toNat else 0) ?hE ?turn (0, true, []) ?h0
  case hE => first | passes_own | with_unfolding_all passes_own
  case h0 =>
    refine ⟨fun _ => ⟨by omega, by dsimp only; omega, ?_⟩, fun h => (nomatch h), by dsimp only; simp, by dsimp only; omega, fun _ h => (nomatch h), M, _, [], 0, [], F0, by rw [hM]; rfl, by rw [hM]; rfl, by rw [hM]; rfl, by rw [hM]; rfl, .nil, N1, fun _ h => nomatch h⟩
    unfold toldFields
    dsimp only
    rw [show ((x.length : Int) + 1 - 0).toNat = x.length + 1 by omega]
  case turn =>
    clear F0 N0 N1
    rintro ⟨i, going, acc⟩ h tk ⟨hg, hng, hal, hil, hfl, M', ti, vs, n, tl, FM, hMt, hMf, hMa, hMg, hD, N', htl⟩
    dsimp only at hg hng hal hil hfl hMa hMg hD ⊢
    have hlr : ∀ q ∈ rest, q.1 < l := by assumption
    cases going with
    | false =>
      have e := hng rfl
      k_steps
      refine post _ _ _ ?_ (by assumption)
      rw [e]
      exact ⟨l, vs, n, tl, rfl, hD, by assumption, hlr, htl, hfl, by omega⟩
    | true =>
      obtain ⟨h0, h1, htf⟩ := hg rfl
      have hfb := fieldAt_bounds (x := x) h0 h1
      have hne : ∀ p ∈ tl ++ rest, p.1 ≠ l := fun p hp => (List.mem_append.mp hp).elim (fun hp => Nat.ne_of_gt (htl p hp)) fun hp => Nat.ne_of_lt (hlr p hp)
      have hvl : vs.length ≤ 101 := by have := hD.length; rw [List.length_map] at this; omega
      k_steps
      · have e0 : (fieldAt x i).1 = none := by assumption
        have e : toldFields x = none := by
          rw [← htf]
          have ek : ((x.length : Int) + 1 - i).toNat = ((x.length : Int) - i).toNat + 1 := by omega
          rw [ek]
          unfold toldF
          rw [e0]
        refine post _ _ _ ?_ (by assumption)
        rw [e]
        refine ⟨rfl, fun q hq => ?_⟩
        rename News h₀ L _ _ => NN
        exact NN q (by simp [hq])
      · rename (fieldAt x i).1 = some _ => e0
        obtain ⟨y, ey⟩ := nm_some e0
        subst ey
        rename News _ _ _ _ => NN
        obtain ⟨D, eD⟩ := nm_first NN
        subst eD
        have hlD : l < D := by omega
        have NN := told_news NN
        have ek : ((x.length : Int) + 1 - i).toNat = ((x.length : Int) - i).toNat + 1 := by omega
        rw [ek] at htf
        unfold toldF at htf
        rw [e0] at htf
        dsimp only at htf
        have hyl : y.length ≤ 100 := Nat.le_trans (hfb.2.2 y e0) hx
        refine ⟨((fieldAt x i).2.1 + 1, decide ((fieldAt x i).2.1 < x.length), acc ++ [(y, (fieldAt x i).2.2)]), _, _, rfl, ?_, ?_, ?_, ?_, ?_, ?_, ⟨_, _, vs ++ [.ref D], n + 1, _, by assumption, ?_, ?_, if_pos rfl, ?_, ?_, NN, ?_⟩⟩
        · dsimp only
          simp only [if_true]
          by_cases c : (fieldAt x i).2.1 < x.length
          · rw [if_pos (decide_eq_true c)]; omega
          · rw [if_neg (by simp [c])]; omega
        · intro hgo
          have hlt := of_decide_eq_true hgo
          dsimp only at hlt ⊢
          rw [if_pos hlt] at htf
          refine ⟨by omega, by omega, ?_⟩
          rw [← htf]
          exact toldF_more (fun j a b => ⟨(fieldAt_bounds a b).1, (fieldAt_bounds a b).2.1⟩) _ _ _ _ (by omega) (by omega) (by omega) (by omega)
        · intro hgo
          have hlt := of_decide_eq_false hgo
          dsimp only at hlt ⊢
          rw [if_neg hlt] at htf
          exact htf.symm
        · simp only [List.length_append, List.length_cons, List.length_nil]
          omega
        · dsimp only; omega
        · intro f hf
          rcases List.mem_append.mp hf with hf | hf
          · exact hfl f hf
          · rw [List.mem_singleton.mp hf]; exact hyl
        · exact Eq.trans (if_neg (by decide)) (Eq.trans (if_neg (by decide)) (Eq.trans (if_neg (by decide)) (Eq.trans (if_neg (by decide)) (Eq.trans (if_neg (by decide)) hMt))))
        · exact Eq.trans (if_neg (by decide)) (Eq.trans (if_neg (by decide)) (Eq.trans (if_neg (by decide)) (Eq.trans (if_neg (by decide)) (Eq.trans (if_neg (by decide)) hMf))))
        · exact Eq.trans (if_neg (by decide)) (if_pos rfl)
        · rw [List.map_append]
          refine DatAll.append (hD.mono fun _ h => .tail _ h) (.one ?_)
          exact DatIn.tuple (.head _) (.cons (.str _ _) (.cons (.bool _) .nil))
        · intro q hq
          rcases List.mem_cons.mp hq with rfl | hq
          · exact hlD
          · exact htl q hq
theorem told_cases {x : Str} {v : Value} {g h : Heap} {L : Addr} {rest : List (Addr × Obj)} (ho : match toldFields x with
        | none => v = Value.none ∧ News g L h rest
        | some fs => ∃ (l : Nat) (vs : List Value) (n : Nat) (tl : List (Addr × Obj)), v = .ref l ∧ DatAll tl vs (fs.map fieldD) ∧ News g L h ((l, listOf vs.toArray n) :: (tl ++ rest)) ∧ (∀ q ∈ rest, q.1 < l) ∧ (∀ q ∈ tl, l < q.1) ∧ (∀ f ∈ fs, f.1.length ≤ 100) ∧ fs.length ≤ 101) :
    (toldFields x = none ∧ v = Value.none ∧ News g L h rest) ∨
    ∃ (fs : List (Str × Bool)) (l : Nat) (vs : List Value) (n : Nat) (tl : List (Addr × Obj)), toldFields x = some fs ∧ v = .ref l ∧ DatAll tl vs (fs.map fieldD) ∧ News g L h ((l, listOf vs.toArray n) :: (tl ++ rest)) ∧ (∀ q ∈ rest, q.1 < l) ∧ (∀ q ∈ tl, l < q.1) ∧ (∀ f ∈ fs, f.1.length ≤ 100) ∧ fs.length ≤ 101 ∧ vs.length = fs.length := by
  cases e : toldFields x with
  | none => rw [e] at ho; exact .inl ⟨rfl, ho⟩
  | some fs =>
    rw [e] at ho
    obtain ⟨l, vs, n, tl, h1, h2, h3, h4, h5, h6, h7⟩ := ho
    exact .inr ⟨fs, l, vs, n, tl, rfl, h1, h2, h3, h4, h5, h6, h7, by have := h2.length; rw [List.length_map] at this; exact this⟩
end
theorem wd_A_6 : True := by
  k_with "call ref" => (k_here; (with_reducible show wpAny _ _ (call (Value.ref 92) _) _ _ _); refine wpAny_call ?_; k_dflt (refine' told_fields_spec ⟨?w9hB, ?w9hF, ?w9hX, ?w9hT, ?w9hf, ?w9hk⟩ ?w9hN ?w9hd ?w9hx ?_; (case w9hF => k_asm); (case w9hB => k_asm); (case w9hX => k_asm); (case w9hT => k_asm); (case w9hf => first | exact rfl | assumption); (case w9hk => first | exact rfl | assumption); (case w9hN => k_asm); (case w9hd => k_room); (case w9hx => first | assumption | omega); k_whole); intro v_w tk_w_w h_w ho_w F_w; (try k_sweep); ((rcases told_cases ho_w with ⟨e_w, ev_w, N_w⟩ | ⟨fs_w, l_w, vs_w, n_w, tl_w, e_w, ev_w, D_w, N_w, l1_w, l2_w, lf_w, ll_w, lv_w⟩) <;> subst ev_w <;> clear ho_w))
  trivial
theorem off_Ct6 : True := by
  w_top off
  trivial
section
variable {w : World} {hd : Option Value} {dp un : Nat} {gd : Option (List Code)} {env : Env} {outer : List Env} {A₀ : Around} {base h₀ : Heap} {L : Addr} {m : Str → Option Value}
    {p : Program} {loose : List Str} {mean : ExcName → Option Value} {mg mb : Str → Option Value} {s : Shared} {R : Result → Shared → Prop}
    {rest : List (Addr × Obj)}
theorem strs_lay : ∀ {ss : List Str}, (∀ x ∈ ss, PyData.strOk x = true) → PyData.canLayAll0 (ss.map PyData.str) = true ∧ PyData.depthAll (ss.map PyData.str) = 0
  | [], _ => ⟨rfl, rfl⟩
  | x :: r, h => by
    have q := strs_lay (ss := r) fun y hy => h y (.tail _ hy)
    have hx := h x (.head _)
    simp [PyData.canLayAll0, PyData.canLay0, PyData.depthAll, PyData.depth, q.1, q.2, hx]
theorem ne_nil_strs {prog : Program} {w : World} {A : Around} {E : Value → Shared → Prop} {s : Shared} {Q : Value → Shared → Prop} {g : Heap} {L D l' : Addr} {news : List (Addr × Obj)} {ys : List Value} {ss : List Str} {n n' : Nat}
    (N : News g L s.heap news) (hl : (l', listOf #[] n') ∈ news) (hD : (D, listOf ys.toArray n) ∈ news) (hC : CarriedAll ys (ss.map PyData.str)) (hok : ∀ x ∈ ss, PyData.strOk x = true) (hu : A.units + 64 < cLine)
    (h : Q (.bool (!decide (ss = []))) s) : wpAny (model prog w) A (compareOp .NotEq (.ref D) (.ref l')) Q E s := by
  have q := strs_lay hok
  refine ne_dataH (reads_list_at (N.get hD) rfl rfl (by simpa using hC.reads _)) (reads_list_at (N.get hl) rfl rfl (by simpa using ReadsAll.nil)) ?_ rfl hu ?_
  · unfold SeqAt.shaped
    simp [PyData.canLay0, PyData.depth, q.1, q.2]
  · have e : PyData.eqv (.list (ss.map PyData.str)) (.list []) = decide (ss = []) := by
      cases ss <;> simp [PyData.eqv, PyData.eqvAll]
    rw [e]; exact h
theorem wd_A_7 : True := by
  k_with "compareOp NotEq ref ref" => (k_here; (with_reducible show wpAny _ _ (compareOp CmpOp.NotEq (Value.ref _) (Value.ref _)) _ _ _); k_dflt (refine' ne_nil_strs ?w9hN ?w9hl ?w9hD ?w9hC ?w9ho ?w9hu ?_; (case w9hN => k_asm); (case w9hl => k_mem); (case w9hD => k_mem); (case w9hC => k_asm); (case w9ho => assumption); (case w9hu => (dsimp only [Around.deeper, Around.in1, Around.mark]; omega)); k_whole))
  trivial
/-- the signs that are no figure -/
def others (x : Str) : List Str := (signs x).filter fun a => !!(Builtin.Str.occurrences (Str.ofString "0123456789") a 0 (Str.ofString "0123456789").length 1).isEmpty
theorem figures_is : Str.ofString "0123456789" = ⟨#[48, 49, 50, 51, 52, 53, 54, 55, 56, 57]⟩ := by decide +kernel
theorem digits_of_none {x : Str} (h : others x = []) : NumText.AllDigits x.cps.toList := by
  intro c hc
  have hm : (⟨#[c]⟩ : Str) ∈ signs x := List.mem_map.mpr ⟨c, hc, rfl⟩
  have hf := List.filter_eq_nil_iff.mp h _ hm
  have ho := StrLaws.found_one (Str.ofString "0123456789") c
  rw [Bool.not_not] at hf
  have hb : (Builtin.Str.occurrences (Str.ofString "0123456789") (⟨#[c]⟩ : Str) 0 (Str.ofString "0123456789").length 1).isEmpty = false := by simpa using hf
  rw [hb] at ho
  have hin : c ∈ (Str.ofString "0123456789").cps.toList := by simpa using ho.symm
  rw [figures_is] at hin
  simp at hin
  omega
theorem others_ok {x : Str} (hx : PyData.strOk x = true) : ∀ y ∈ others x, PyData.strOk y = true := by
  intro y hy
  have hm : y ∈ signs x := (List.mem_filter.mp hy).1
  obtain ⟨c, hc, rfl⟩ := List.mem_map.mp hm
  unfold PyData.strOk at hx ⊢
  have := Array.all_eq_true_iff_forall_mem.mp hx c (by simpa using hc)
  simpa using this
/-- what _law_number gives -/
def lawNumber (x : Str) : Option Int :=
  if (x == Str.ofString "") = true then none else if others x = [] then some ((NumText.digitsVal x.cps.toList : Nat) : Int) else none
/-- a value that is an int or None -/
def OptI (o : Option Int) (v : Value) : Prop := match o with
  | some y => ∃ t, v = .int y t
  | none => v = .none
theorem number_spec {x : Str} {tx : Nat}
    (H : Here w A₀ base outer h₀ L m p loose mean mg mb env s)
    (N : News h₀ L s.heap rest)
    (hdp : dp + 10 < recursionLimit) (hun : un + 100 < cLine) (hx : x.length ≤ 100) (hok : PyData.strOk x = true)
    (post : ∀ v tk'' h', OptI (lawNumber x) v → News h₀ L h' rest → Fr h₀ L h' m → R (.ok (.ret v)) { s with heap := h', toks := tk'' }) :
    codeAny (model Challenge.rw_sm0001_01.row.prog w) (At none dp un gd env outer) (.call (.ref 180) ⟨[.str x tx], []⟩) R s := by
  obtain ⟨B, F, X, T, hf, hke⟩ := H
  refine' code_def (A := At none dp un gd env outer) (env := env) (outer := outer) B F X N T rfl hf hke ?k6 ?k7 ?hroom ?k9 ?kB ?_ ?c2 ?c3 ?c4 ?c5
  case k6 => k_dflt k_is
  case k7 => k_dflt k_is
  case hroom => k_room
  case k9 => exact BindsTo.of_eq rfl
  case c5 => decide
  case kB => exact locs rfl
  case c2 => exact rfl
  case c3 => exact rfl
  case c4 => exact rfl
  intro g' L' h' FG' F' N' B' X' T'
  dsimp only
  k_fold
  have ho := others_ok hok
  unfold others at ho
  k_steps
  · refine post _ _ _ ?_ (by assumption) (by assumption)
    unfold lawNumber
    rw [if_pos (by assumption)]
    rfl
  · have hnil : others x = [] := by assumption
    have hne : x.cps.toList ≠ [] := fun e => by
      have hx0 : x = Str.ofString "" := by
        rw [show Str.ofString "" = ⟨#[]⟩ from by decide +kernel]
        obtain ⟨⟨l⟩⟩ := x
        cases e
        rfl
      have : (x == Str.ofString "") = false := by assumption
      rw [hx0] at this
      simp at this
    refine KIN.call_text (intText_digits (digits_of_none hnil) hne (by omega)) (by omega) ?_
    k_steps
    refine post _ _ _ ?_ (fun q hq => (by assumption : News h₀ L _ _) q (by simp [hq])) (by assumption)
    unfold lawNumber
    rw [if_neg (by simp_all), if_pos hnil]
    exact ⟨_, rfl⟩
  · have hnil : ¬ others x = [] := by assumption
    refine post _ _ _ ?_ (fun q hq => (by assumption : News h₀ L _ _) q (by simp [hq])) (by assumption)
    unfold lawNumber
    rw [if_neg (by simp_all), if_neg hnil]
    rfl
end
theorem wd_A_8 : True := by
  k_with_none
  k_with "exec While" => (k_here; k_dflt (refine stop_while ?_))
  k_with "exec While BoolOp" => (k_here; k_dflt (refine stop_while ?_))
  k_with "exec While Compare" => (k_here; k_dflt (refine stop_while ?_))
  k_with "TurnEnd" => (dsimp only [TurnEnd])
  k_with "eval Name" => (k_here; k_dflt (refine' ld ?w9k1 ?w9k2 ?_; (case w9k1 => k_asm); (case w9k2 => (repeat refine Eq.trans (if_neg (by decide)) ?_); first | assumption | exact if_pos rfl); k_whole))
  k_with "loadName" => (k_here; k_dflt (refine' ldn ?w9k1 ?w9k2 ?_; (case w9k1 => k_asm); (case w9k2 => (repeat refine Eq.trans (if_neg (by decide)) ?_); first | assumption | exact if_pos rfl); k_whole))
  k_with "exec While Name" => (k_here; k_dflt (refine stop_while ?_))
  k_with "exec While Name cons nil" => (k_here; k_dflt (refine stop_while ?_))
  k_with "last exec While" => (k_here; k_dflt (refine stop_while ?_))
  k_with "exec For" => (k_here; k_dflt (refine stop_for ?_))
  k_with "exec For Tuple" => (k_here; k_dflt (refine stop_for ?_))
  k_with "exec For Tuple Call" => (k_here; k_dflt (refine stop_for ?_))
  k_with "exec For Tuple Call cons nil" => (k_here; k_dflt (refine stop_for ?_))
  k_with "exec For Name" => (k_here; k_dflt (refine stop_for ?_))
  k_with "exec For Name Name" => (k_here; k_dflt (refine stop_for ?_))
  k_with "exec For Name Name cons nil" => (k_here; k_dflt (refine stop_for ?_))
  k_with "exec For Name Call" => (k_here; k_dflt (refine stop_for ?_))
  k_with "exec For Name Call cons nil" => (k_here; k_dflt (refine stop_for ?_))
  k_with "call builtin:len" => (k_here; (with_reducible show wpAny _ _ (call (Value.builtin "len") [Value.ref _]) _ _ _); k_dflt (refine' len_led ?w9N ?w9m ?w9z ?_; (case w9N => k_asm); (case w9m => k_mem); (case w9z => omega); k_whole))
  k_with "call builtin:list.pop" => (k_here; (with_reducible show wpAny _ _ (call (Value.builtin _) [Value.ref _, Value.int _ _]) _ _ _); k_dflt (refine' pop_first ?w9F ?w9N ?w9U ?w9z ?_; (case w9F => k_asm); (case w9N => k_asm); (case w9U => k_upd); (case w9z => omega); k_whole); (intro h_w F_w N_w); (try k_sweep))
  k_with "leaving ref" => (k_here; first
      | (refine' leave_raiseS ?w9k1 ?w9k0 ?w9k2 ?w9k3 ?_; (case w9k0 => first | assumption | exact Heap.MadeExc.of (by assumption)); (case w9k2 => assumption); (case w9k1 => assumption); (case w9k3 => k_asm); k_whole; intro h_w t_w S_w R_w U_w; (try dsimp only at S_w R_w U_w ⊢))
      | (refine' leave_onS ?w9k1 ?w9k2 ?w9k3 ?w9k4 ?_; (case w9k3 => assumption); (case w9k1 => assumption); (case w9k4 => assumption); (case w9k2 => assumption); k_whole; intro h_w S_w R_w U_w; (try dsimp only at S_w R_w U_w ⊢)))
  k_with "call ref" => (k_here; (with_reducible show wpAny _ _ (call (Value.ref 71) _) _ _ _); refine wpAny_call ?_; k_dflt (refine' blank_end_spec ⟨?w9hB, ?w9hF, ?w9hX, ?w9hT, ?w9hf, ?w9hk⟩ ?w9hN ?w9hd ?w9hx ?w9h0 ?w9h1 ?_; (case w9hF => k_asm); (case w9hB => k_asm); (case w9hX => k_asm); (case w9hT => k_asm); (case w9hf => first | exact rfl | assumption); (case w9hk => first | exact rfl | assumption); (case w9hN => k_asm); (case w9hd => k_room); (case w9hx => first | assumption | omega); (case w9h0 => omega); (case w9h1 => omega); k_whole); intro tk_w tk_w_w h_w F_w N_w; (try k_sweep))
  k_with "call ref" => (k_here; (with_reducible show wpAny _ _ (call (Value.ref 78) _) _ _ _); refine wpAny_call ?_; k_dflt (refine' quoted_field_spec ⟨?w9hB, ?w9hF, ?w9hX, ?w9hT, ?w9hf, ?w9hk⟩ ?w9hN ?w9hd ?w9hx ?w9h0 ?w9h1 ?_; (case w9hF => k_asm); (case w9hB => k_asm); (case w9hX => k_asm); (case w9hT => k_asm); (case w9hf => first | exact rfl | assumption); (case w9hk => first | exact rfl | assumption); (case w9hN => k_asm); (case w9hd => k_room); (case w9hx => first | assumption | omega); (case w9h0 => omega); (case w9h1 => first | omega | exact slice_quote (by omega) (by assumption)); k_whole); intro D_w t1_w t2_w tk_w_w h_w hq_w l1_w F_w N_w; (try k_lt l1_w); (try k_sweep))
  k_with "call ref" => (k_here; (with_reducible show wpAny _ _ (call (Value.ref 85) _) _ _ _); refine wpAny_call ?_; k_dflt (refine' field_at_spec ⟨?w9hB, ?w9hF, ?w9hX, ?w9hT, ?w9hf, ?w9hk⟩ ?w9hN ?w9hd ?w9hx ?w9h0 ?w9h1 ?_; (case w9hF => k_asm); (case w9hB => k_asm); (case w9hX => k_asm); (case w9hT => k_asm); (case w9hf => first | exact rfl | assumption); (case w9hk => first | exact rfl | assumption); (case w9hN => k_asm); (case w9hd => k_room); (case w9hx => first | assumption | omega); (case w9h0 => omega); (case w9h1 => omega); k_whole); intro D_w v_w t2_w tk_w_w h_w ho_w l1_w F_w N_w; (try k_lt l1_w); (try k_sweep); ((rcases optV_cases ho_w with ⟨e_w, ev_w⟩ | ⟨y_w, t_w, e_w, ev_w⟩) <;> subst ev_w))
  k_with "call ref" => (k_here; (with_reducible show wpAny _ _ (call (Value.ref 92) _) _ _ _); refine wpAny_call ?_; k_dflt (refine' told_fields_spec ⟨?w9hB, ?w9hF, ?w9hX, ?w9hT, ?w9hf, ?w9hk⟩ ?w9hN ?w9hd ?w9hx ?_; (case w9hF => k_asm); (case w9hB => k_asm); (case w9hX => k_asm); (case w9hT => k_asm); (case w9hf => first | exact rfl | assumption); (case w9hk => first | exact rfl | assumption); (case w9hN => k_asm); (case w9hd => k_room); (case w9hx => first | assumption | omega); k_whole); intro v_w tk_w_w h_w ho_w F_w; (try k_sweep); ((rcases told_cases ho_w with ⟨e_w, ev_w, N_w⟩ | ⟨fs_w, l_w, vs_w, n_w, tl_w, e_w, ev_w, D_w, N_w, l1_w, l2_w, lf_w, ll_w, lv_w⟩) <;> subst ev_w <;> clear ho_w))
  trivial
theorem wd_A_9 : True := by
  k_with "call ref" => (k_here; (with_reducible show wpAny _ _ (call (Value.ref 180) _) _ _ _); refine wpAny_call ?_; k_dflt (refine' number_spec ⟨?w9hB, ?w9hF, ?w9hX, ?w9hT, ?w9hf, ?w9hk⟩ ?w9hN ?w9hd ?w9hu ?w9hx ?w9ho ?_; (case w9hF => k_asm); (case w9hB => k_asm); (case w9hX => k_asm); (case w9hT => k_asm); (case w9hf => first | exact rfl | assumption); (case w9hk => first | exact rfl | assumption); (case w9hN => k_asm); (case w9hd => k_room); (case w9hu => (dsimp only [Around.deeper, Around.in1, Around.mark]; omega)); (case w9hx => first | assumption | omega); (case w9ho => assumption); k_whole); intro v_w tk_w_w h_w ho_w N_w F_w; (try k_sweep))
  trivial
theorem off_Ct7 : True := by
  w_top off
  trivial
section
variable {w : World} {hd : Option Value} {dp un : Nat} {gd : Option (List Code)} {env : Env} {outer : List Env} {A₀ : Around} {base h₀ : Heap} {L : Addr} {m : Str → Option Value}
    {p : Program} {loose : List Str} {mean : ExcName → Option Value} {mg mb : Str → Option Value} {s : Shared} {R : Result → Shared → Prop}
    {rest : List (Addr × Obj)}
/-- what value_of_field gives -/
def valueOf (f k : Str) : Option Dat :=
  if (k == Str.ofString "text") = true then some (.str f) else if (f == Str.ofString "") = true then some (.int 0) else (lawNumber f).map Dat.int
def OptD (o : Option Dat) (v : Value) : Prop := match o with
  | some d => DatIn [] v d
  | none => v = .none
theorem optD_of_optI {o : Option Int} {v : Value} (h : OptI o v) : OptD (o.map Dat.int) v := by
  cases o with
  | none => exact h
  | some i => obtain ⟨t, rfl⟩ := h; exact DatIn.int i t
theorem value_spec {f k : Str} {tf tk : Nat}
    (H : Here w A₀ base outer h₀ L m p loose mean mg mb env s)
    (N : News h₀ L s.heap rest)
    (hdp : dp + 20 < recursionLimit) (hun : un + 110 < cLine) (hx : f.length ≤ 100) (hok : PyData.strOk f = true)
    (post : ∀ v tk'' h', OptD (valueOf f k) v → News h₀ L h' rest → Fr h₀ L h' m → R (.ok (.ret v)) { s with heap := h', toks := tk'' }) :
    codeAny (model Challenge.rw_sm0001_01.row.prog w) (At none dp un gd env outer) (.call (.ref 99) ⟨[.str f tf, .str k tk, .ref 180], []⟩) R s := by
  obtain ⟨B, F, X, T, hf, hke⟩ := H
  refine' code_def (A := At none dp un gd env outer) (env := env) (outer := outer) B F X N T rfl hf hke ?k6 ?k7 ?hroom ?k9 ?kB ?_ ?c2 ?c3 ?c4 ?c5
  case k6 => k_dflt k_is
  case k7 => k_dflt k_is
  case hroom => k_room
  case k9 => exact BindsTo.of_eq rfl
  case c5 => decide
  case kB => exact locs rfl
  case c2 => exact rfl
  case c3 => exact rfl
  case c4 => exact rfl
  intro g' L' h' FG' F' N' B' X' T'
  dsimp only
  k_fold
  k_steps
  · refine post _ _ _ ?_ (by assumption) (by assumption)
    unfold valueOf
    rw [if_pos (by assumption)]
    exact DatIn.str _ _
  · refine post _ _ _ ?_ (by assumption) (by assumption)
    unfold valueOf
    rw [if_neg (by simp_all), if_pos (by assumption)]
    exact DatIn.int _ _
  · refine post _ _ _ ?_ (by assumption) (by assumption)
    unfold valueOf
    rw [if_neg (by simp_all), if_neg (by simp_all)]
    exact optD_of_optI (by assumption)
theorem value_three {f k : Str} {v : Value} (h : OptD (valueOf f k) v) : (valueOf f k = none ∧ v = .none) ∨ (∃ y t, valueOf f k = some (.str y) ∧ v = .str y t) ∨ ∃ i t, valueOf f k = some (.int i) ∧ v = .int i t := by
  cases e : valueOf f k with
  | none => rw [e] at h; exact .inl ⟨rfl, h⟩
  | some d =>
    rw [e] at h
    unfold valueOf at e
    have hd : (∃ y, d = .str y) ∨ ∃ i, d = .int i := by
      split at e
      · cases e; exact .inl ⟨_, rfl⟩
      · split at e
        · cases e; exact .inr ⟨_, rfl⟩
        · cases q : lawNumber f with
          | none => rw [q] at e; cases e
          | some i => rw [q] at e; cases e; exact .inr ⟨_, rfl⟩
    rcases hd with ⟨y, rfl⟩ | ⟨i, rfl⟩
    · cases h
      exact .inr (.inl ⟨_, _, rfl, rfl⟩)
    · cases h
      exact .inr (.inr ⟨_, _, rfl, rfl⟩)
end
theorem wd_A_10 : True := by
  k_with "call ref" => (k_here; (with_reducible show wpAny _ _ (call (Value.ref 99) _) _ _ _); refine wpAny_call ?_; k_dflt (refine' value_spec ⟨?w9hB, ?w9hF, ?w9hX, ?w9hT, ?w9hf, ?w9hk⟩ ?w9hN ?w9hd ?w9hu ?w9hx ?w9ho ?_; (case w9hF => k_asm); (case w9hB => k_asm); (case w9hX => k_asm); (case w9hT => k_asm); (case w9hf => first | exact rfl | assumption); (case w9hk => first | exact rfl | assumption); (case w9hN => k_asm); (case w9hd => k_room); (case w9hu => (dsimp only [Around.deeper, Around.in1, Around.mark]; omega)); (case w9hx => first | assumption | omega); (case w9ho => assumption); k_whole); intro v_w tk_w_w h_w ho_w N_w F_w; (try k_sweep); ((rcases value_three ho_w with ⟨e_w, ev_w⟩ | ⟨y_w, t_w, e_w, ev_w⟩ | ⟨i_w, t_w, e_w, ev_w⟩) <;> subst ev_w))
  trivial
theorem off_Ct7b : True := by
  w_top off
  trivial
section
variable {w : World} {hd : Option Value} {dp un : Nat} {gd : Option (List Code)} {env : Env} {outer : List Env} {A₀ : Around} {base h₀ : Heap} {L : Addr} {m : Str → Option Value}
    {p : Program} {loose : List Str} {mean : ExcName → Option Value} {mg mb : Str → Option Value} {s : Shared} {R : Result → Shared → Prop}
    {rest : List (Addr × Obj)}
theorem filterMap_ok {x : Str} (hx : PyData.strOk x = true) (is : List Nat) : PyData.strOk ⟨(is.filterMap (x.cps[·]?)).toArray⟩ = true := by
  unfold PyData.strOk at hx ⊢
  have hx' := Array.all_eq_true_iff_forall_mem.mp hx
  refine Array.all_eq_true_iff_forall_mem.mpr fun c hc => ?_
  simp only [List.mem_toArray, List.mem_filterMap] at hc
  obtain ⟨i, _, hi⟩ := hc
  exact hx' c (Array.mem_of_getElem? hi)
theorem slice_ok {x : Str} (hx : PyData.strOk x = true) (l u : Option Int) : PyData.strOk (Txt.slice x l u) = true := by
  unfold Txt.slice
  split
  · exact hx
  · exact filterMap_ok hx _
theorem sub_ok {x : Str} (hx : PyData.strOk x = true) (i j : Nat) : PyData.strOk (Builtin.Str.strSub x i j) = true := by
  unfold Builtin.Str.strSub
  unfold PyData.strOk at hx ⊢
  have hx' := Array.all_eq_true_iff_forall_mem.mp hx
  refine Array.all_eq_true_iff_forall_mem.mpr fun c hc => hx' c ?_
  have := Array.mem_toList_iff.mpr hc
  rw [Array.toList_extract] at this
  simp only [List.extract_eq_drop_take] at this
  exact Array.mem_toList_iff.mp (List.mem_of_mem_drop (List.mem_of_mem_take this))
theorem rstrip_ok {x y : Str} (hx : PyData.strOk x = true) : PyData.strOk (Txt.rstripChars x y) = true := by
  obtain ⟨j, _, e⟩ := rstripChars_is_prefix x y
  rw [e]
  exact sub_ok hx 0 j
theorem fieldAt_ok {x : Str} (hx : PyData.strOk x = true) {i : Int} {y : Str} (h : (fieldAt x i).1 = some y) : PyData.strOk y = true := by
  unfold fieldAt at h
  split at h
  · dsimp only at h
    split at h
    · cases h
      unfold quoted
      split
      · exact slice_ok hx _ _
      · exact slice_ok hx _ _
    · cases h
  · split at h
    · cases h; exact rstrip_ok (slice_ok hx _ _)
    · cases h; exact rstrip_ok (slice_ok hx _ _)
theorem toldF_all {g : Int → Option Str × Int × Bool} {len : Int} {P : Str → Prop} (hg : ∀ i y, (g i).1 = some y → P y) (k : Nat) :
    ∀ (i : Int) (acc fs : List (Str × Bool)), (∀ f ∈ acc, P f.1) → toldF g len k i acc = some fs → ∀ f ∈ fs, P f.1 := by
  induction k with
  | zero => intro i acc fs ha h; unfold toldF at h; cases h; exact ha
  | succ k ih =>
    intro i acc fs ha h
    unfold toldF at h
    cases e : (g i).1 with
    | none => rw [e] at h; cases h
    | some y =>
      rw [e] at h
      dsimp only at h
      have ha' : ∀ f ∈ acc ++ [(y, (g i).2.2)], P f.1 := fun f hf => (List.mem_append.mp hf).elim (ha f) fun hf => by
        rw [List.mem_singleton.mp hf]; exact hg i y e
      by_cases c : (g i).2.1 < len
      · rw [if_pos c] at h; exact ih _ _ _ ha' h
      · rw [if_neg c] at h; cases h; exact ha'
theorem toldFields_ok {x : Str} (hx : PyData.strOk x = true) {fs : List (Str × Bool)} (h : toldFields x = some fs) : ∀ f ∈ fs, PyData.strOk f.1 = true :=
  toldF_all (fun _ _ e => fieldAt_ok hx e) _ _ [] _ (by simp) h
def fitOne (f : Str × Bool) (k : Str) : Option Dat := if f.2 = true ∧ ¬ (k == Str.ofString "text") = true then none else valueOf f.1 k
def fitAll : List (Str × Bool) → List Str → Option (List Dat)
  | f :: fs, k :: ks => (match fitOne f k with
    | none => none
    | some d => (fitAll fs ks).map (d :: ·))
  | [], [] => some []
  | [], _ :: _ => none
  | _ :: _, [] => none
theorem fitAll_len : ∀ {fs : List (Str × Bool)} {ks : List Str}, fs.length ≠ ks.length → fitAll fs ks = none
  | [], [], h => absurd rfl h
  | [], _ :: _, _ => rfl
  | _ :: _, [], _ => rfl
  | f :: fs, k :: ks, h => by
    unfold fitAll
    rw [fitAll_len (fs := fs) (ks := ks) (by simpa using h)]
    cases fitOne f k <;> rfl
/-- what fitted_values gives -/
def fit (ks : List Str) (x : Str) : Option (List Dat) := match toldFields x with
  | none => none
  | some fs => fitAll fs ks
theorem fieldD_in {tl : List (Addr × Obj)} {v : Value} {f : Str × Bool} (h : DatIn tl v (fieldD f)) : ∃ (a : Nat) (t : Tok) (c : Nat), v = .ref a ∧ (a, ({ cls := .type "tuple", data := .seq #[.str f.1 t, .bool f.2] c } : Obj)) ∈ tl := by
  unfold fieldD at h
  cases h with
  | tuple hm hd =>
    cases hd with
    | cons h1 h2 =>
      cases h2 with
      | cons h3 h4 =>
        cases h1; cases h3; cases h4
        exact ⟨_, _, _, rfl, hm⟩
theorem fitAll_none {fs fs' : List (Str × Bool)} {ks ks' : List Str} {acc : List Dat} {f : Str × Bool} {k : Str} (h : fitAll fs ks = (fitAll (f :: fs') (k :: ks')).map (acc ++ ·)) (e : fitOne f k = none) : fitAll fs ks = none := by
  rw [h, fitAll, e]; rfl
theorem fitAll_step {fs fs' : List (Str × Bool)} {ks ks' : List Str} {acc : List Dat} {f : Str × Bool} {k : Str} {d : Dat} (h : fitAll fs ks = (fitAll (f :: fs') (k :: ks')).map (acc ++ ·)) (e : fitOne f k = some d) : fitAll fs ks = (fitAll fs' ks').map ((acc ++ [d]) ++ ·) := by
  rw [h, fitAll, e]
  dsimp only
  rw [Option.map_map]
  congr 1
  funext l
  simp
end
theorem off_Ct8 : True := by
  w_top off
  trivial
section
variable {w : World} {hd : Option Value} {dp un : Nat} {gd : Option (List Code)} {env : Env} {outer : List Env} {A₀ : Around} {base h₀ : Heap} {L : Addr} {m : Str → Option Value}
    {p : Program} {loose : List Str} {mean : ExcName → Option Value} {mg mb : Str → Option Value} {s : Shared} {R : Result → Shared → Prop}
    {rest : List (Addr × Obj)}
theorem fitOne_of {f : Str × Bool} {k : Str} (h : ¬ (f.2 = true ∧ ¬ (k == Str.ofString "text") = true)) : fitOne f k = valueOf f.1 k := by
  unfold fitOne
  rw [if_neg h]
theorem fitted_turn {g h : Heap} {L : Addr} {s0 : Shared} {tk : Nat} {I fl Fd Kd nF nk n : Nat} {o1 o2 o3 o4 o5 : Obj} {tl rest : List (Addr × Obj)} {vs kvs avs vs' ws' : List Value} {fs fs' : List (Str × Bool)} {ks ks' : List Str} {acc : List Dat} {f : Str × Bool} {k : Str} {d : Dat} {V : Value} {M : Str → Option Value} {v0 w0 : Value}
    (hi1 : fl < I) (hi2 : Fd < I) (hi3 : AllLt I (tl ++ rest)) (hKm : (Kd, listOf kvs.toArray nk) ∈ tl ++ rest) (_hD : DatAll tl vs (fs.map fieldD)) (hsz : avs.length + (v0 :: vs').length ≤ 101)
    (ef : fitOne f k = some d) (h2 : DatAll tl vs' (fs'.map fieldD)) (h4 : DatAll [] ws' (ks'.map Dat.str)) (hlen : (v0 :: vs').length = (w0 :: ws').length)
    (hfit : fitAll fs ks = (fitAll (f :: fs') (k :: ks')).map (acc ++ ·)) (havs : DatAll [] avs acc) (hfo' : ∀ f' ∈ f :: fs', f'.1.length ≤ 100 ∧ PyData.strOk f'.1 = true)
    (hV : DatIn [] V d) (F : Fr g L h M) (N : News g L h ((I + 4, o1) :: (I + 2, o2) :: (I + 3, o3) :: (I, o4) :: (I + 1, o5) :: (fl, listOf (avs.toArray.push V) (n + 1)) :: (Fd, listOf vs.toArray nF) :: (tl ++ rest)))
    (hMf : M (Str.ofString "found") = some (.ref fl)) (hMr : M (Str.ofString "read_number") = some (.ref 180)) :
    UnrEndW g L s0 [(I + 4, o1), (I + 2, o2), (I + 3, o3), (I, o4), (I + 1, o5)] (fun m' n' => SubL [(Fd, listOf vs.toArray nF), (Kd, listOf kvs.toArray nk)] n' ∧
      ∃ (fs1 : List (Str × Bool)) (ks1 : List Str) (vs1 ws1 : List Value) (acc1 : List Dat) (avs1 : List Value) (n1 : Nat),
      zipItems vs' ws' = zipItems vs1 ws1 ∧ DatAll tl vs1 (fs1.map fieldD) ∧ DatAll [] ws1 (ks1.map Dat.str) ∧ vs1.length = ws1.length ∧ fitAll fs ks = (fitAll fs1 ks1).map (acc1 ++ ·) ∧ DatAll [] avs1 acc1 ∧ avs1.length + vs1.length ≤ 101 ∧
      (∀ f ∈ fs1, f.1.length ≤ 100 ∧ PyData.strOk f.1 = true) ∧ n' = (fl, listOf avs1.toArray n1) :: (Fd, listOf vs.toArray nF) :: (tl ++ rest) ∧ m' (Str.ofString "found") = some (.ref fl) ∧ m' (Str.ofString "read_number") = some (.ref 180)) { s0 with heap := h, toks := tk } := by
  have e : avs.toArray.push V = (avs ++ [V]).toArray := by simp
  rw [e] at N
  refine ⟨h, tk, M, _, rfl, F, N, ?_, ⟨.tail _ (.head _), .tail _ (.tail _ hKm), trivial⟩, fs', ks', vs', ws', acc ++ [d], avs ++ [V], n + 1, rfl, h2, h4, by simpa using hlen, fitAll_step hfit ef, havs.append (.one hV), by simp only [List.length_append, List.length_cons, List.length_nil] at hsz ⊢; omega, fun f' hf' => hfo' f' (.tail _ hf'), rfl, hMf, hMr⟩
  have hlt : ∀ p ∈ ((fl, listOf (avs ++ [V]).toArray (n + 1)) :: (Fd, listOf vs.toArray nF) :: (tl ++ rest) : List (Addr × Obj)), p.1 < I := by
    intro p hp
    rcases List.mem_cons.mp hp with rfl | hp
    · exact hi1
    · rcases List.mem_cons.mp hp with rfl | hp
      · exact hi2
      · exact lt_of_allLt hi3 p hp
  intro p hp q hq
  have h1 : @LT.lt Nat _ p.1 I := hlt p hp
  have h2 : @LE.le Nat _ I q.1 := by
    simp only [List.mem_cons, List.not_mem_nil, or_false] at hq
    rcases hq with rfl | rfl | rfl | rfl | rfl
    · exact Nat.le_add_right _ _
    · exact Nat.le_add_right _ _
    · exact Nat.le_add_right _ _
    · exact Nat.le_refl _
    · exact Nat.le_add_right _ _
  exact Nat.ne_of_lt (Nat.lt_of_lt_of_le h1 h2)
theorem fitted_spec {x : Str} {tx nk Kd : Nat} {kvs : List Value} {ks : List Str}
    (H : Here w A₀ base outer h₀ L m p loose mean mg mb env s)
    (N : News h₀ L s.heap rest)
    (hdp : dp + 50 < recursionLimit) (hun : un + 120 < cLine) (hx : x.length ≤ 100) (hok : PyData.strOk x = true)
    (hK : (Kd, listOf kvs.toArray nk) ∈ rest) (hks : DatAll [] kvs (ks.map Dat.str)) (hkl : ks.length ≤ 10)
    (post : ∀ v tk'' h', (match fit ks x with
        | none => v = Value.none ∧ News h₀ L h' rest
        | some ds => ∃ (l : Nat) (vs : List Value) (n : Nat), v = .ref l ∧ DatAll [] vs ds ∧ News h₀ L h' ((l, listOf vs.toArray n) :: rest) ∧ (∀ q ∈ rest, q.1 < l)) →
      Fr h₀ L h' m → R (.ok (.ret v)) { s with heap := h', toks := tk'' }) :
    codeAny (model Challenge.rw_sm0001_01.row.prog w) (At none dp un gd env outer) (.call (.ref 106) ⟨[.ref Kd, .str x tx, .ref 180], []⟩) R s := by
  obtain ⟨B, F, X, T, hf, hke⟩ := H
  refine' code_def (A := At none dp un gd env outer) (env := env) (outer := outer) B F X N T rfl hf hke ?k6 ?k7 ?hroom ?k9 ?kB ?_ ?c2 ?c3 ?c4 ?c5
  case k6 => k_dflt k_is
  case k7 => k_dflt k_is
  case hroom => k_room
  case k9 => exact BindsTo.of_eq rfl
  case c5 => decide
  case kB => exact locs rfl
  case c2 => exact rfl
  case c3 => exact rfl
  case c4 => exact rfl
  intro g' L' h' FG' F' N' B' X' T'
  dsimp only
  k_fold
  have hfo := @toldFields_ok x hok
  have hkvl : kvs.length = ks.length := by have := hks.length; rw [List.length_map] at this; exact this
  k_steps
  · refine post _ _ _ ?_ (by assumption)
    unfold fit
    rw [(by assumption : toldFields x = none)]
    exact ⟨rfl, by assumption⟩
  · rename toldFields x = some _ => eT
    have hne := hfo eT
    refine post _ _ _ ?_ (by assumption)
    unfold fit
    rw [eT]
    dsimp only
    rw [fitAll_len (by omega)]
    exact ⟨rfl, fun q hq => (by assumption : News h₀ L _ _) q (by simp [hq])⟩
  · rename toldFields x = some _ => eT
    obtain ⟨fs, e⟩ := nm_some eT
    subst e
    rename DatAll _ _ (List.map fieldD fs) => hD
    obtain ⟨tl, vs, e1, e2⟩ := nm_dat hD
    subst e1
    subst e2
    rename News g' _ _ _ => NN
    obtain ⟨fl, e⟩ := nm_first NN
    subst e
    obtain ⟨Fd, e⟩ := nm_second NN
    subst e
    obtain ⟨nF, e⟩ := nm_epoch NN
    subst e
    have hfok := hfo eT
    have hflen : ∀ f ∈ fs, f.1.length ≤ 100 := by assumption
    have hKm : (Kd, listOf kvs.toArray nk) ∈ tl ++ rest := List.mem_append_right _ hK
    unfold Stop
    (with_unfolding_all refine' For_turns (by assumption) ?_)
    k_steps
    refine ktu_zip (l1 := Fd) (l2 := Kd) (lo1 := listOf vs.toArray nF) (lo2 := listOf kvs.toArray nk) (xs := vs) (ys := kvs) rfl (by assumption) NN (.tail _ (.head _)) rfl rfl (.tail _ (.tail _ hKm)) rfl rfl ?_
    intro I hI
    refine items_loop (fun items m news => ∃ (fs' : List (Str × Bool)) (ks' : List Str) (vs' ws' : List Value) (acc : List Dat) (avs : List Value) (n : Nat),
      items = zipItems vs' ws' ∧ DatAll tl vs' (fs'.map fieldD) ∧ DatAll [] ws' (ks'.map Dat.str) ∧ vs'.length = ws'.length ∧ fitAll fs ks = (fitAll fs' ks').map (acc ++ ·) ∧ DatAll [] avs acc ∧ avs.length + vs'.length ≤ 101 ∧
      (∀ f ∈ fs', f.1.length ≤ 100 ∧ PyData.strOk f.1 = true) ∧ news = (fl, listOf avs.toArray n) :: (Fd, listOf vs.toArray nF) :: (tl ++ rest) ∧ m (Str.ofString "found") = some (.ref fl) ∧ m (Str.ofString "read_number") = some (.ref 180)) ?turn ?last _ _ _ ?h0
    case h0 =>
      refine ⟨fs, ks, vs, kvs, [], [], 0, rfl, hD, hks, by omega, by cases fitAll fs ks <;> rfl, .nil, by dsimp only [List.length_nil]; omega, fun f hf => ⟨hflen f hf, hfok f hf⟩, rfl, ?_, ?_⟩
      · exact if_pos rfl
      · exact Eq.trans (if_neg (by decide)) rfl
    case last =>
      rintro m' news h tk ⟨fs', ks', vs', ws', acc, avs, n, hit, hvs, hws, hlen, hfit, havs, hsz, hfo', rfl, hMf, hMr⟩ FM N'
      have hnil : vs' = [] ∧ ws' = [] := by
        cases vs' with
        | nil => exact ⟨rfl, by cases ws' with | nil => rfl | cons _ _ => cases hlen⟩
        | cons _ _ => cases ws' with
          | nil => cases hlen
          | cons _ _ => exact absurd hit (by simp [zipItems])
      obtain ⟨rfl, rfl⟩ := hnil
      have e1 : fs' = [] := by cases fs' with | nil => rfl | cons _ _ => cases hvs
      have e2 : ks' = [] := by cases ks' with | nil => rfl | cons _ _ => cases hws
      subst e1
      subst e2
      k_steps
      refine post _ _ _ ?_ (by assumption)
      have e0 : fit ks x = some acc := by
        unfold fit
        rw [eT]
        dsimp only
        rw [hfit]
        simp [fitAll]
      rw [e0]
      refine ⟨fl, avs, n, rfl, havs, fun q hq => (by assumption : News h₀ L _ _) q (by simp only [List.mem_cons, List.mem_append] at hq ⊢; rcases hq with hq | hq <;> simp [hq]), fun q hq => ?_⟩
      exact Nat.lt_trans ((by assumption : ∀ q ∈ rest, q.1 < Fd) q hq) (by omega)
    case turn =>
      rintro a r m' news v h tk ⟨fs', ks', vs', ws', acc, avs, n, hit, hvs, hws, hlen, hfit, havs, hsz, hfo', rfl, hMf, hMr⟩ hv FM
      cases vs' with
      | nil => exact absurd hit (by simp [zipItems])
      | cons v0 vs' =>
        cases ws' with
        | nil => exact absurd hit (by simp [zipItems])
        | cons w0 ws' =>
          cases fs' with
          | nil => cases hvs
          | cons f fs' =>
            cases ks' with
            | nil => cases hws
            | cons k ks' =>
              cases hvs with
              | cons h1 h2 =>
                cases hws with
                | cons h3 h4 =>
                  cases h3
                  obtain ⟨af, tf, cf, rfl, hm⟩ := fieldD_in h1
                  injection hit with ha hr
                  subst ha
                  subst hr
                  obtain ⟨T', t0, rfl, hT'⟩ := hv
                  dsimp only at hT'
                  obtain ⟨hfl1, hfk1⟩ := hfo' f (.head _)
                  have hmem : (af, ({ cls := .type "tuple", data := .seq #[.str f.1 tf, .bool f.2] cf } : Obj)) ∈ tl ++ rest := List.mem_append_left _ hm
                  have hsz' : avs.length ≤ 101 := by omega
                  intro o1 c1 o2 c2 o3 c3 o4 c4 o5 c5 N'
                  simp only [List.cons_append, List.nil_append] at N'
                  have hIa : AllLt I ((fl, listOf #[] 0) :: (Fd, listOf vs.toArray nF) :: (tl ++ rest)) := allLt_of hI
                  simp only [AllLt] at hIa
                  obtain ⟨hi1, hi2, hi3⟩ := hIa
                  k_steps
                  · have ef : fitOne f k = none := by
                      unfold fitOne
                      rw [if_pos ⟨by assumption, by simp_all⟩]
                    refine post _ _ _ ?_ (by assumption)
                    have e0 : fit ks x = none := by
                      unfold fit
                      rw [eT]
                      exact fitAll_none hfit ef
                    rw [e0]
                    exact ⟨rfl, fun q hq => (by assumption : News h₀ L _ _) q (by simp [hq])⟩
                  · have ef : fitOne f k = none := by
                      unfold fitOne
                      rw [if_neg (by simp_all)]; assumption
                    refine post _ _ _ ?_ (by assumption)
                    have e0 : fit ks x = none := by
                      unfold fit
                      rw [eT]
                      exact fitAll_none hfit ef
                    rw [e0]
                    exact ⟨rfl, fun q hq => (by assumption : News h₀ L _ _) q (by simp [hq])⟩
                  · rename valueOf f.1 k = some _ => ev
                    have ef := ev
                    rw [← fitOne_of (f := f) (k := k) (by simp_all)] at ef
                    rename News _ _ _ _ => NE
                    exact fitted_turn hi1 hi2 hi3 hKm hD hsz ef h2 h4 hlen hfit havs hfo' (.str _ _) (by assumption) NE (by first | ((repeat refine Eq.trans (if_neg (by decide)) ?_); exact hMf)) (by first | ((repeat refine Eq.trans (if_neg (by decide)) ?_); exact hMr))
                  · rename valueOf f.1 k = some _ => ev
                    have ef := ev
                    rw [← fitOne_of (f := f) (k := k) (by simp_all)] at ef
                    rename News _ _ _ _ => NE
                    exact fitted_turn hi1 hi2 hi3 hKm hD hsz ef h2 h4 hlen hfit havs hfo' (.int _ _) (by assumption) NE (by first | ((repeat refine Eq.trans (if_neg (by decide)) ?_); exact hMf)) (by first | ((repeat refine Eq.trans (if_neg (by decide)) ?_); exact hMr))
                  · have ef : fitOne f k = none := by
                      unfold fitOne
                      rw [if_neg (by simp_all)]; assumption
                    refine post _ _ _ ?_ (by assumption)
                    have e0 : fit ks x = none := by
                      unfold fit
                      rw [eT]
                      exact fitAll_none hfit ef
                    rw [e0]
                    exact ⟨rfl, fun q hq => (by assumption : News h₀ L _ _) q (by simp [hq])⟩
                  · rename valueOf f.1 k = some _ => ev
                    have ef := ev
                    rw [← fitOne_of (f := f) (k := k) (by simp_all)] at ef
                    rename News _ _ _ _ => NE
                    exact fitted_turn hi1 hi2 hi3 hKm hD hsz ef h2 h4 hlen hfit havs hfo' (.str _ _) (by assumption) NE (by first | ((repeat refine Eq.trans (if_neg (by decide)) ?_); exact hMf)) (by first | ((repeat refine Eq.trans (if_neg (by decide)) ?_); exact hMr))
                  · rename valueOf f.1 k = some _ => ev
                    have ef := ev
                    rw [← fitOne_of (f := f) (k := k) (by simp_all)] at ef
                    rename News _ _ _ _ => NE
                    exact fitted_turn hi1 hi2 hi3 hKm hD hsz ef h2 h4 hlen hfit havs hfo' (.int _ _) (by assumption) NE (by first | ((repeat refine Eq.trans (if_neg (by decide)) ?_); exact hMf)) (by first | ((repeat refine Eq.trans (if_neg (by decide)) ?_); exact hMr))
theorem fit_cases {ks : List Str} {x : Str} {v : Value} {g h : Heap} {L : Addr} {rest : List (Addr × Obj)} (ho : match fit ks x with
        | none => v = Value.none ∧ News g L h rest
        | some ds => ∃ (l : Nat) (vs : List Value) (n : Nat), v = .ref l ∧ DatAll [] vs ds ∧ News g L h ((l, listOf vs.toArray n) :: rest) ∧ (∀ q ∈ rest, q.1 < l)) :
    (fit ks x = none ∧ v = Value.none ∧ News g L h rest) ∨
    ∃ (ds : List Dat) (l : Nat) (vs : List Value) (n : Nat), fit ks x = some ds ∧ v = .ref l ∧ DatAll [] vs ds ∧ News g L h ((l, listOf vs.toArray n) :: rest) ∧ (∀ q ∈ rest, q.1 < l) := by
  cases e : fit ks x with
  | none => rw [e] at ho; exact .inl ⟨rfl, ho⟩
  | some ds => rw [e] at ho; obtain ⟨l, vs, n, h⟩ := ho; exact .inr ⟨ds, l, vs, n, rfl, h⟩
end
theorem wd_A_11 : True := by
  k_with "call ref" => (k_here; (with_reducible show wpAny _ _ (call (Value.ref 106) _) _ _ _); refine wpAny_call ?_; k_dflt (refine' fitted_spec ⟨?w9hB, ?w9hF, ?w9hX, ?w9hT, ?w9hf, ?w9hk⟩ ?w9hN ?w9hd ?w9hu ?w9hx ?w9ho ?w9hK ?w9hks ?w9hkl ?_; (case w9hF => k_asm); (case w9hB => k_asm); (case w9hX => k_asm); (case w9hT => k_asm); (case w9hf => first | exact rfl | assumption); (case w9hk => first | exact rfl | assumption); (case w9hN => k_asm); (case w9hd => k_room); (case w9hu => (dsimp only [Around.deeper, Around.in1, Around.mark]; omega)); (case w9hx => first | assumption | omega); (case w9ho => assumption); (case w9hK => k_mem); (case w9hks => assumption); (case w9hkl => assumption); k_whole); intro v_w tk_w_w h_w ho_w F_w; (try k_sweep); ((rcases fit_cases ho_w with ⟨e_w, ev_w, N_w⟩ | ⟨ds_w, l_w, vs_w, n_w, e_w, ev_w, D_w, N_w, l1_w⟩) <;> subst ev_w <;> clear ho_w))
  trivial
theorem off_Wd0 : True := by
  w_top off
  trivial
section
variable {w : World} {hd : Option Value} {dp un : Nat} {gd : Option (List Code)} {env : Env} {outer : List Env} {A₀ : Around} {base h₀ : Heap} {L : Addr} {m : Str → Option Value}
    {p : Program} {loose : List Str} {mean : ExcName → Option Value} {mg mb : Str → Option Value} {s : Shared} {R : Result → Shared → Prop}
    {rest : List (Addr × Obj)}
theorem getL_find {n : Str} {es : List DictEntry} {v : Value} : getL n es = some (some v) ↔ ∃ e, es.find? (·.key.isStr n) = some e ∧ e.val = v := by
  unfold getL
  cases h : es.find? (·.key.isStr n) with
  | none =>
    constructor
    · intro q; dsimp only at q; split at q <;> cases q
    · rintro ⟨e, q, _⟩; cases q
  | some e => simp
theorem isStr_ne {v : Value} {a b : Str} (h : v.isStr a = true) (hn : a ≠ b) : v.isStr b = false := by
  cases v <;> simp_all [Value.isStr]
theorem getL_put_self {n : Str} {hs : Int} {k v : Value} : ∀ {es : List DictEntry} {v0 : Value}, getL n es = some (some v0) → getL n (putL n hs k v es) = some (some v) := by
  intro es
  induction es with
  | nil => intro v0 h; obtain ⟨e, q, _⟩ := getL_find.mp h; cases q
  | cons e r ih =>
    intro v0 h
    unfold putL
    by_cases c : e.key.isStr n = true
    · rw [if_pos c]
      exact getL_find.mpr ⟨⟨e.hash, e.key, v⟩, by rw [List.find?_cons]; simp only [c], rfl⟩
    · rw [if_neg c]
      obtain ⟨e', q, hv⟩ := getL_find.mp h
      rw [List.find?_cons] at q
      simp only [c] at q
      obtain ⟨e2, q2, hv2⟩ := getL_find.mp (ih (getL_find.mpr ⟨e', q, hv⟩))
      refine getL_find.mpr ⟨e2, ?_, hv2⟩
      rw [List.find?_cons]
      simp only [c]
      exact q2
theorem getL_put_ne {n n' : Str} {hs : Int} {k v : Value} (hn : n ≠ n') : ∀ {es : List DictEntry} {v0 u : Value}, getL n es = some (some v0) → getL n' es = some (some u) → getL n' (putL n hs k v es) = some (some u) := by
  intro es
  induction es with
  | nil => intro v0 u h; obtain ⟨e, q, _⟩ := getL_find.mp h; cases q
  | cons e r ih =>
    intro v0 u h h'
    unfold putL
    by_cases c : e.key.isStr n = true
    · rw [if_pos c]
      have c' := isStr_ne c hn
      obtain ⟨e', q, hv⟩ := getL_find.mp h'
      rw [List.find?_cons] at q
      simp only [c'] at q
      refine getL_find.mpr ⟨e', ?_, hv⟩
      rw [List.find?_cons]
      simp only [c']
      exact q
    · rw [if_neg c]
      obtain ⟨e', q, hv⟩ := getL_find.mp h
      rw [List.find?_cons] at q
      simp only [c] at q
      obtain ⟨e1, q1, hv1⟩ := getL_find.mp h'
      rw [List.find?_cons] at q1
      refine getL_find.mpr ?_
      rw [List.find?_cons]
      cases c1 : e.key.isStr n' with
      | true => rw [c1] at q1; exact ⟨e1, q1, hv1⟩
      | false =>
        rw [c1] at q1
        exact getL_find.mp (ih (getL_find.mpr ⟨e', q, hv⟩) (getL_find.mpr ⟨e1, q1, hv1⟩))
theorem putL_len {n : Str} {hs : Int} {k v : Value} : ∀ {es : List DictEntry} {v0 : Value}, getL n es = some (some v0) → (putL n hs k v es).length = es.length := by
  intro es
  induction es with
  | nil => intro v0 h; obtain ⟨e, q, _⟩ := getL_find.mp h; cases q
  | cons e r ih =>
    intro v0 h
    unfold putL
    by_cases c : e.key.isStr n = true
    · rw [if_pos c]; simp
    · rw [if_neg c]
      obtain ⟨e', q, hv⟩ := getL_find.mp h
      rw [List.find?_cons] at q
      simp only [c] at q
      simp [ih (getL_find.mpr ⟨e', q, hv⟩)]
theorem isSome_of {o : Option (Option Value)} {v : Value} (h : o = some (some v)) : o.isSome = true := by rw [h]; rfl
/-- the world's own dict -/
structure WD (es : List DictEntry) (row : Str) (io oo : Nat) : Prop where
  row : ∃ t, getL (Str.ofString "row") es = some (some (.str row t))
  inp : getL (Str.ofString "inputs") es = some (some (.ref io))
  out : getL (Str.ofString "out") es = some (some (.ref oo))
  len : es.length ≤ 100
theorem WD.setRow {es : List DictEntry} {row row' : Str} {io oo : Nat} {hs : Int} {k : Value} {t : Tok} (h : WD es row io oo) : WD (putL (Str.ofString "row") hs k (.str row' t) es) row' io oo := by
  obtain ⟨t0, hr⟩ := h.row
  exact ⟨⟨t, getL_put_self hr⟩, getL_put_ne (by decide) hr h.inp, getL_put_ne (by decide) hr h.out, by rw [putL_len hr]; exact h.len⟩
theorem WD.setInp {es : List DictEntry} {row : Str} {io oo io' : Nat} {hs : Int} {k : Value} (h : WD es row io oo) : WD (putL (Str.ofString "inputs") hs k (.ref io') es) row io' oo := by
  obtain ⟨t0, hr⟩ := h.row
  exact ⟨⟨t0, getL_put_ne (by decide) h.inp hr⟩, getL_put_self h.inp, getL_put_ne (by decide) h.inp h.out, by rw [putL_len h.inp]; exact h.len⟩
theorem WD.setRowE {es : List DictEntry} {row row' row2 : Str} {io oo : Nat} {hs : Int} {k : Value} {t : Tok} (h : WD es row io oo) (e : row' = row2) : WD (putL (Str.ofString "row") hs k (.str row' t) es) row2 io oo := e ▸ h.setRow
theorem eq_of_bne_false {a b : Str} (h : (a != b) = false) : a = b := by simpa using h
theorem len_ledC {prog : Program} {w : World} {A : Around} {E : Value → Shared → Prop} {s : Shared} {h₀ : Heap} {L l : Addr} {news : List (Addr × Obj)} {v : Value} {vs : List Value} {n : Nat} {Q : Value → Shared → Prop} (N : News h₀ L s.heap news) (hm : (l, listOf (v :: vs).toArray n) ∈ news) (hz : vs.length ≤ 100000)
    (h : Q (.int ((vs.length : Int) + 1) (s.toks + 1)) { s with toks := s.toks + 1 + 1 }) : wpAny (model prog w) A (call (.builtin "len") [.ref l]) Q E s :=
  len_led N hm (by simp; omega) (by rw [List.length_cons]; exact h)
theorem len_ledN {prog : Program} {w : World} {A : Around} {E : Value → Shared → Prop} {s : Shared} {h₀ : Heap} {L l : Addr} {news : List (Addr × Obj)} {n : Nat} {Q : Value → Shared → Prop} (N : News h₀ L s.heap news) (hm : (l, listOf ([] : List Value).toArray n) ∈ news)
    (h : Q (.int 0 (s.toks + 1)) { s with toks := s.toks + 1 + 1 }) : wpAny (model prog w) A (call (.builtin "len") [.ref l]) Q E s :=
  len_led N hm (by simp) h
end
theorem off_Wd6 : True := by
  w_top off
  trivial
section
variable {w : World} {hd : Option Value} {dp un : Nat} {gd : Option (List Code)} {env : Env} {outer : List Env} {A₀ : Around} {base h₀ : Heap} {L : Addr} {m : Str → Option Value}
    {p : Program} {loose : List Str} {mean : ExcName → Option Value} {mg mb : Str → Option Value} {s : Shared} {R : Result → Shared → Prop}
    {rest : List (Addr × Obj)}
def StrKeys (es : List DictEntry) : Prop := ∀ e ∈ es, e.refKey = false
theorem getL_some {n : Str} {es : List DictEntry} (h : StrKeys es) : (getL n es).isSome = true := by
  unfold getL
  cases es.find? (·.key.isStr n) with
  | some e => rfl
  | none =>
    have : es.any (·.refKey) = false := List.any_eq_false.mpr fun e he => by rw [h e he]; simp
    simp [this]
theorem putL_keys {n : Str} {hs : Int} {t : Tok} {v : Value} : ∀ {es : List DictEntry}, StrKeys es → StrKeys (putL n hs (.str n t) v es)
  | [], _ => by
    intro e he
    rw [List.mem_singleton.mp he]
    rfl
  | e :: r, h => by
    unfold putL
    split
    · intro e' he'
      rcases List.mem_cons.mp he' with rfl | he'
      · exact h e (.head _)
      · exact h e' (.tail _ he')
    · intro e' he'
      rcases List.mem_cons.mp he' with rfl | he'
      · exact h _ (.head _)
      · exact putL_keys (fun x hx => h x (.tail _ hx)) e' he'
theorem putL_le {n : Str} {hs : Int} {k v : Value} : ∀ {es : List DictEntry}, (putL n hs k v es).length ≤ es.length + 1
  | [] => by simp [putL]
  | e :: r => by
    unfold putL
    split
    · simp
    · simp [putL_le (es := r)]
theorem getL_new_self {n : Str} {hs : Int} {t : Tok} {v : Value} : ∀ {es : List DictEntry}, getL n (putL n hs (.str n t) v es) = some (some v)
  | [] => getL_find.mpr ⟨⟨hs, .str n t, v⟩, by simp [putL, Value.isStr], rfl⟩
  | e :: r => by
    unfold putL
    by_cases c : e.key.isStr n = true
    · rw [if_pos c]
      exact getL_find.mpr ⟨⟨e.hash, e.key, v⟩, by rw [List.find?_cons]; simp only [c], rfl⟩
    · rw [if_neg c]
      obtain ⟨e2, q2, hv2⟩ := getL_find.mp (getL_new_self (n := n) (hs := hs) (t := t) (v := v) (es := r))
      refine getL_find.mpr ⟨e2, ?_, hv2⟩
      rw [List.find?_cons]
      simp only [c]
      exact q2
theorem getL_new_ne {n n' : Str} {hs : Int} {k v : Value} (hn : n ≠ n') : ∀ {es : List DictEntry} {u : Value}, getL n' es = some (some u) → getL n' (putL n hs k v es) = some (some u)
  | [], u, h' => by obtain ⟨e, q, _⟩ := getL_find.mp h'; cases q
  | e :: r, u, h' => by
    unfold putL
    by_cases c : e.key.isStr n = true
    · rw [if_pos c]
      have c' := isStr_ne c hn
      obtain ⟨e', q, hv⟩ := getL_find.mp h'
      rw [List.find?_cons] at q
      simp only [c'] at q
      refine getL_find.mpr ⟨e', ?_, hv⟩
      rw [List.find?_cons]
      simp only [c']
      exact q
    · rw [if_neg c]
      obtain ⟨e1, q1, hv1⟩ := getL_find.mp h'
      rw [List.find?_cons] at q1
      refine getL_find.mpr ?_
      rw [List.find?_cons]
      cases c1 : e.key.isStr n' with
      | true => rw [c1] at q1; exact ⟨e1, q1, hv1⟩
      | false =>
        rw [c1] at q1
        exact getL_find.mp (getL_new_ne hn (getL_find.mpr ⟨e1, q1, hv1⟩))
/-- what is known of the new world's dict: its keys are texts; the three attributes -/
structure WP (es : List DictEntry) (k : Nat) (ov rv iv : Option Value) : Prop where
  keys : StrKeys es
  len : es.length ≤ k
  out : ∀ v, ov = some v → getL (Str.ofString "out") es = some (some v)
  row : ∀ v, rv = some v → getL (Str.ofString "row") es = some (some v)
  inp : ∀ v, iv = some v → getL (Str.ofString "inputs") es = some (some v)
theorem WP.nil : WP [] 0 none none none where
  keys := by intro e he; cases he
  len := by simp
  out := by intro v h; cases h
  row := by intro v h; cases h
  inp := by intro v h; cases h
def upd (name a : Str) (v : Value) (o : Option Value) : Option Value := if name = a then some v else o
theorem upd_ne {name a : Str} {v : Value} {o : Option Value} (h : name ≠ a) : upd name a v o = o := if_neg h
theorem upd_eq {a : Str} {v : Value} {o : Option Value} : upd a a v o = some v := if_pos rfl
theorem world_news {g h : Heap} {L : Addr} {p1 p2 p3 p4 p5 p6 p7 : Addr × Obj} {r : List (Addr × Obj)} (N : News g L h (p1 :: p2 :: p3 :: p4 :: p5 :: p6 :: p7 :: r)) : News g L h (p1 :: p2 :: p6 :: p7 :: r) := fun p hp => N p (by
  simp only [List.mem_cons] at hp ⊢
  rcases hp with hp | hp | hp | hp | hp <;> simp [hp])
theorem upd_get {name a : Str} {v : Value} {o : Option Value} {es : List DictEntry} {hs : Int} {t : Tok} (h : ∀ u, o = some u → getL a es = some (some u)) : ∀ u, upd name a v o = some u → getL a (putL name hs (.str name t) v es) = some (some u) := by
  intro u hu
  unfold upd at hu
  by_cases c : name = a
  · rw [if_pos c] at hu
    cases hu
    subst c
    exact getL_new_self
  · rw [if_neg c] at hu
    exact getL_new_ne c (h u hu)
theorem store_new {prog : Program} {w : World} {A : Around} {E : Value → Shared → Prop} {s : Shared} {K : Frag} {L : Addr} {x C dx : Nat} {h₀ : Heap} {m : Str → Option Value} {R : List (Addr × Obj)} {es : List DictEntry} {n k : Nat} {name : Str} {v : Value} {ov rv iv : Option Value}
    {Q : Unit → Shared → Prop} (F : Fr h₀ L s.heap m) (X₀ : K.In h₀) (N : News h₀ L s.heap ((dx, dictOf es n) :: (x, instObj C dx) :: R)) (hR : ∀ p ∈ (x, instObj C dx) :: R, p.1 ≠ dx)
    (hs : findIn K (.ref C) "__setattr__" = some (some (.builtin "object.__setattr__"))) (hp : plainOver K C = true) (ht : takerIn K C name = some none) (hh : hasDictIn K C = true) (hW : WP es k ov rv iv) (hz : k ≤ 900)
    (h : ∀ (es' : List DictEntry) (n' : Nat) (h' : Heap) (tk' : Nat), WP es' (k + 1) (upd name (Str.ofString "out") v ov) (upd name (Str.ofString "row") v rv) (upd name (Str.ofString "inputs") v iv) →
      Fr h₀ L h' m → News h₀ L h' ((dx, dictOf es' n') :: (x, instObj C dx) :: R) → Q () { s with heap := h', toks := tk' }) :
    wpAny (model prog w) A (setAttr (.ref x) name v) Q E s :=
  set_dict F X₀ N (InstAt.of_news N (.tail _ (.head _)) (.head _)) rfl hs hp ht hh (getL_some hW.keys) rfl (Upd.head hR) (Nat.le_trans putL_le (by have := hW.len; omega)) fun h' F' N' =>
    h _ _ h' _ ⟨putL_keys hW.keys, Nat.le_trans putL_le (Nat.succ_le_succ hW.len), upd_get hW.out, upd_get hW.row, upd_get hW.inp⟩ F' N'
theorem list_new {prog : Program} {w : World} {A : Around} {E : Value → Shared → Prop} {s : Shared} {L : Addr} {x C dx : Nat} {h₀ : Heap} {m : Str → Option Value} {R : List (Addr × Obj)} {es : List DictEntry} {n : Nat}
    {Q : Value → Shared → Prop} (F : Fr h₀ L s.heap m) (N : News h₀ L s.heap ((dx, dictOf es n) :: (x, instObj C dx) :: R)) (hR : ∀ p ∈ (x, instObj C dx) :: R, p.1 ≠ dx)
    (h : ∀ (l : Nat) (h' : Heap) (R' : List (Addr × Obj)), R' = (l, listOf ([] : List Value).toArray 0) :: R → (∀ p ∈ (dx, dictOf es n) :: (x, instObj C dx) :: R, p.1 < l) → Fr h₀ L h' m → News h₀ L h' ((dx, dictOf es n) :: (x, instObj C dx) :: R') →
      (∀ p ∈ (x, instObj C dx) :: R', p.1 ≠ dx) → Q (.ref l) { s with heap := h' }) :
    wpAny (model prog w) A (newList []) Q E s :=
  newList_K F N (fun l h' F' N' l1 => h l h' _ rfl l1 F' (fun p hp => N' p (by
    simp only [List.mem_cons] at hp ⊢
    rcases hp with hp | hp | hp | hp <;> simp [hp])) fun p hp => by
      simp only [List.mem_cons] at hp
      rcases hp with hp | hp | hp
      · exact hR p (by simp [hp])
      · rw [hp]; exact Nat.ne_of_gt (l1 _ (.head _))
      · exact hR p (.tail _ hp)) (by simp)
theorem dict_new {prog : Program} {w : World} {A : Around} {E : Value → Shared → Prop} {s : Shared} {L : Addr} {h₀ : Heap} {m : Str → Option Value} {news : List (Addr × Obj)} {env : Env} {pos : Pos}
    {Q : Value → Shared → Prop} (F : Fr h₀ L s.heap m) (N : News h₀ L s.heap news) (hb : h₀.NoLimit)
    (h : ∀ (d : Nat) (h' : Heap), Fr h₀ L h' m → News h₀ L h' news → Q (.ref d) { s with heap := h' }) :
    wpAny (model prog w) A (eval (.Dict [] [] pos) env) Q E s :=
  newDict_K F N hb fun d h' _ F' N' _ _ _ _ _ _ => h d h' F' (news_drop N')
theorem wd_A_12 : True := by
  k_with "setAttr ref" => (k_here; (rename WP _ _ _ _ _ => hOld); k_dflt (refine' store_new ?w9k1 ?w9k2 ?w9k3 ?w9k4 ?w9k6 ?w9k7 ?w9k8 ?w9k9 hOld ?w9k13 ?_; (case w9k1 => k_asm); (case w9k2 => k_asm); (case w9k3 => k_asm); (case w9k4 => assumption); (case w9k6 => k_is); (case w9k7 => k_is); (case w9k8 => k_is); (case w9k9 => k_is); (case w9k13 => decide); k_whole; clear hOld; intro es_w n_w h_w tk_w hW_w F_w N_w; (try k_sweep)))
  k_with "newList" => (k_here; k_dflt (refine' list_new ?w9k1 ?w9k2 ?w9k3 ?_; (case w9k1 => k_asm); (case w9k2 => k_asm); (case w9k3 => assumption); k_whole; intro l_w h_w R_w eR_w l1_w F_w N_w hR_w; (try k_sweep)))
  k_with "eval Dict nil nil" => (k_here; k_dflt (refine' dict_new ?w9k1 ?w9k2 (TopRead.nolimit (by k_asm)) ?_; (case w9k1 => k_asm); (case w9k2 => k_asm); k_whole; intro d_w h_w F_w N_w; (try k_sweep)))
  trivial
theorem world_spec {Q : Value → Shared → Prop} {E : Value → Shared → Prop}
    (H : Here w A₀ base outer h₀ L m p loose mean mg mb env s)
    (N : News h₀ L s.heap rest)
    (hdp : dp + 20 < recursionLimit)
    (post : ∀ (dx x io oo : Nat) (es : List DictEntry) (n tk : Nat) h', WD es (Str.ofString "") io oo → (∀ q ∈ rest, q.1 < dx) → dx < x → x < oo → oo < io → Fr h₀ L h' m →
      News h₀ L h' ((dx, dictOf es n) :: (x, instObj 152 dx) :: (io, listOf ([] : List Value).toArray 0) :: (oo, listOf ([] : List Value).toArray 0) :: rest) → Q (.ref x) { s with heap := h', toks := tk }) :
    wpAny (model Challenge.rw_sm0001_01.row.prog w) (At none dp un gd env outer) (call (.ref 152) [] []) Q E s := by
  obtain ⟨B, F, X, T, hf, hke⟩ := H
  refine' call_cls F X N ?k4 ?k5 ?k6 ?_
  case k4 => k_dflt k_is
  case k5 => k_dflt k_is
  case k6 => k_dflt k_is
  intro x dx h1 F1 N1 l1 l2
  have l2' : @LT.lt Nat _ dx x := l2
  have N1 : News h₀ L h1 ((dx, dictOf [] 0) :: (x, instObj 152 dx) :: rest) := fun p hp => N1 p (by
    simp only [List.mem_cons] at hp ⊢
    rcases hp with hp | hp | hp <;> simp [hp])
  refine' code_def (outer := outer) (env := env) B F1 X N1 T rfl hf hke ?k6 ?k7 ?hroom ?k9 ?kB ?_ ?c2 ?c3 ?c4 ?c5
  case k6 => k_dflt k_is
  case k7 => k_dflt k_is
  case hroom => k_room
  case k9 => first | exact BindsTo.of_eq rfl | (k_dflt exact binds_K (by k_in) rfl (by k_is) rfl rfl rfl)
  case c5 => decide
  case kB => exact locs rfl
  case c2 => exact rfl
  case c3 => exact rfl
  case c4 => exact rfl
  intro g' L' h' FG' F' N' B' X' T'
  dsimp only
  k_fold
  have hW := WP.nil
  have hR : ∀ p ∈ (x, instObj 152 dx) :: rest, p.1 ≠ dx := fun p hp => by
    rcases List.mem_cons.mp hp with rfl | hp
    · exact Nat.ne_of_gt l2
    · exact Nat.ne_of_lt (l1 p hp)
  clear N1 l2
  k_steps
  subst_vars
  rename News h₀ L _ _ => NE
  rename WP _ _ _ _ _ => hWe
  rename (∀ (p : Nat × Obj), p ∈ (dx, _) :: (x, _) :: rest → p.1 < _) => hoo
  rename (∀ (p : Nat × Obj), p ∈ (dx, _) :: (x, _) :: (_, _) :: rest → p.1 < _) => hio
  refine' post dx x _ _ _ _ _ _ ⟨⟨_, hWe.row _ ?q1⟩, hWe.inp _ ?q2, hWe.out _ ?q3, Nat.le_trans hWe.len (by decide)⟩ l1 l2' (hoo _ (.tail _ (.head _))) (hio _ (.tail _ (.tail _ (.head _)))) (by assumption) (world_news NE)
  case q1 => (repeat refine Eq.trans (upd_ne (by decide)) ?_); exact upd_eq
  case q2 => (repeat refine Eq.trans (upd_ne (by decide)) ?_); exact upd_eq
  case q3 => (repeat refine Eq.trans (upd_ne (by decide)) ?_); exact upd_eq
end
theorem wd_A_13 : True := by
  k_with_none
  k_with "exec While" => (k_here; k_dflt (refine stop_while ?_))
  k_with "exec While BoolOp" => (k_here; k_dflt (refine stop_while ?_))
  k_with "exec While Compare" => (k_here; k_dflt (refine stop_while ?_))
  k_with "TurnEnd" => (dsimp only [TurnEnd])
  k_with "eval Name" => (k_here; k_dflt (refine' ld ?w9k1 ?w9k2 ?_; (case w9k1 => k_asm); (case w9k2 => (repeat refine Eq.trans (if_neg (by decide)) ?_); first | assumption | exact if_pos rfl); k_whole))
  k_with "loadName" => (k_here; k_dflt (refine' ldn ?w9k1 ?w9k2 ?_; (case w9k1 => k_asm); (case w9k2 => (repeat refine Eq.trans (if_neg (by decide)) ?_); first | assumption | exact if_pos rfl); k_whole))
  k_with "exec While Name" => (k_here; k_dflt (refine stop_while ?_))
  k_with "exec While Name cons nil" => (k_here; k_dflt (refine stop_while ?_))
  k_with "last exec While" => (k_here; k_dflt (refine stop_while ?_))
  k_with "exec For" => (k_here; k_dflt (refine stop_for ?_))
  k_with "exec For Tuple" => (k_here; k_dflt (refine stop_for ?_))
  k_with "exec For Tuple Call" => (k_here; k_dflt (refine stop_for ?_))
  k_with "exec For Tuple Call cons nil" => (k_here; k_dflt (refine stop_for ?_))
  k_with "exec For Name" => (k_here; k_dflt (refine stop_for ?_))
  k_with "exec For Name Name" => (k_here; k_dflt (refine stop_for ?_))
  k_with "exec For Name Name cons nil" => (k_here; k_dflt (refine stop_for ?_))
  k_with "exec For Name Call" => (k_here; k_dflt (refine stop_for ?_))
  k_with "exec For Name Call cons nil" => (k_here; k_dflt (refine stop_for ?_))
  k_with "call builtin:len" => (k_here; (with_reducible show wpAny _ _ (call (Value.builtin "len") [Value.ref _]) _ _ _); k_dflt (refine' len_led ?w9N ?w9m ?w9z ?_; (case w9N => k_asm); (case w9m => k_mem); (case w9z => omega); k_whole))
  k_with "call builtin:list.pop" => (k_here; (with_reducible show wpAny _ _ (call (Value.builtin _) [Value.ref _, Value.int _ _]) _ _ _); k_dflt (refine' pop_first ?w9F ?w9N ?w9U ?w9z ?_; (case w9F => k_asm); (case w9N => k_asm); (case w9U => k_upd); (case w9z => omega); k_whole); (intro h_w F_w N_w); (try k_sweep))
  k_with "leaving ref" => (k_here; first
      | (refine' leave_raiseS ?w9k1 ?w9k0 ?w9k2 ?w9k3 ?_; (case w9k0 => first | assumption | exact Heap.MadeExc.of (by assumption)); (case w9k2 => assumption); (case w9k1 => assumption); (case w9k3 => k_asm); k_whole; intro h_w t_w S_w R_w U_w; (try dsimp only at S_w R_w U_w ⊢))
      | (refine' leave_onS ?w9k1 ?w9k2 ?w9k3 ?w9k4 ?_; (case w9k3 => assumption); (case w9k1 => assumption); (case w9k4 => assumption); (case w9k2 => assumption); k_whole; intro h_w S_w R_w U_w; (try dsimp only at S_w R_w U_w ⊢)))
  k_with "call ref" => (k_here; (with_reducible show wpAny _ _ (call (Value.ref 71) _) _ _ _); refine wpAny_call ?_; k_dflt (refine' blank_end_spec ⟨?w9hB, ?w9hF, ?w9hX, ?w9hT, ?w9hf, ?w9hk⟩ ?w9hN ?w9hd ?w9hx ?w9h0 ?w9h1 ?_; (case w9hF => k_asm); (case w9hB => k_asm); (case w9hX => k_asm); (case w9hT => k_asm); (case w9hf => first | exact rfl | assumption); (case w9hk => first | exact rfl | assumption); (case w9hN => k_asm); (case w9hd => k_room); (case w9hx => first | assumption | omega); (case w9h0 => omega); (case w9h1 => omega); k_whole); intro tk_w tk_w_w h_w F_w N_w; (try k_sweep))
  k_with "call ref" => (k_here; (with_reducible show wpAny _ _ (call (Value.ref 78) _) _ _ _); refine wpAny_call ?_; k_dflt (refine' quoted_field_spec ⟨?w9hB, ?w9hF, ?w9hX, ?w9hT, ?w9hf, ?w9hk⟩ ?w9hN ?w9hd ?w9hx ?w9h0 ?w9h1 ?_; (case w9hF => k_asm); (case w9hB => k_asm); (case w9hX => k_asm); (case w9hT => k_asm); (case w9hf => first | exact rfl | assumption); (case w9hk => first | exact rfl | assumption); (case w9hN => k_asm); (case w9hd => k_room); (case w9hx => first | assumption | omega); (case w9h0 => omega); (case w9h1 => first | omega | exact slice_quote (by omega) (by assumption)); k_whole); intro D_w t1_w t2_w tk_w_w h_w hq_w l1_w F_w N_w; (try k_lt l1_w); (try k_sweep))
  k_with "call ref" => (k_here; (with_reducible show wpAny _ _ (call (Value.ref 85) _) _ _ _); refine wpAny_call ?_; k_dflt (refine' field_at_spec ⟨?w9hB, ?w9hF, ?w9hX, ?w9hT, ?w9hf, ?w9hk⟩ ?w9hN ?w9hd ?w9hx ?w9h0 ?w9h1 ?_; (case w9hF => k_asm); (case w9hB => k_asm); (case w9hX => k_asm); (case w9hT => k_asm); (case w9hf => first | exact rfl | assumption); (case w9hk => first | exact rfl | assumption); (case w9hN => k_asm); (case w9hd => k_room); (case w9hx => first | assumption | omega); (case w9h0 => omega); (case w9h1 => omega); k_whole); intro D_w v_w t2_w tk_w_w h_w ho_w l1_w F_w N_w; (try k_lt l1_w); (try k_sweep); ((rcases optV_cases ho_w with ⟨e_w, ev_w⟩ | ⟨y_w, t_w, e_w, ev_w⟩) <;> subst ev_w))
  k_with "call ref" => (k_here; (with_reducible show wpAny _ _ (call (Value.ref 92) _) _ _ _); refine wpAny_call ?_; k_dflt (refine' told_fields_spec ⟨?w9hB, ?w9hF, ?w9hX, ?w9hT, ?w9hf, ?w9hk⟩ ?w9hN ?w9hd ?w9hx ?_; (case w9hF => k_asm); (case w9hB => k_asm); (case w9hX => k_asm); (case w9hT => k_asm); (case w9hf => first | exact rfl | assumption); (case w9hk => first | exact rfl | assumption); (case w9hN => k_asm); (case w9hd => k_room); (case w9hx => first | assumption | omega); k_whole); intro v_w tk_w_w h_w ho_w F_w; (try k_sweep); ((rcases told_cases ho_w with ⟨e_w, ev_w, N_w⟩ | ⟨fs_w, l_w, vs_w, n_w, tl_w, e_w, ev_w, D_w, N_w, l1_w, l2_w, lf_w, ll_w, lv_w⟩) <;> subst ev_w <;> clear ho_w))
  k_with "call ref" => (k_here; (with_reducible show wpAny _ _ (call (Value.ref 180) _) _ _ _); refine wpAny_call ?_; k_dflt (refine' number_spec ⟨?w9hB, ?w9hF, ?w9hX, ?w9hT, ?w9hf, ?w9hk⟩ ?w9hN ?w9hd ?w9hu ?w9hx ?w9ho ?_; (case w9hF => k_asm); (case w9hB => k_asm); (case w9hX => k_asm); (case w9hT => k_asm); (case w9hf => first | exact rfl | assumption); (case w9hk => first | exact rfl | assumption); (case w9hN => k_asm); (case w9hd => k_room); (case w9hu => (dsimp only [Around.deeper, Around.in1, Around.mark]; omega)); (case w9hx => first | assumption | omega); (case w9ho => assumption); k_whole); intro v_w tk_w_w h_w ho_w N_w F_w; (try k_sweep))
  k_with "call ref" => (k_here; (with_reducible show wpAny _ _ (call (Value.ref 99) _) _ _ _); refine wpAny_call ?_; k_dflt (refine' value_spec ⟨?w9hB, ?w9hF, ?w9hX, ?w9hT, ?w9hf, ?w9hk⟩ ?w9hN ?w9hd ?w9hu ?w9hx ?w9ho ?_; (case w9hF => k_asm); (case w9hB => k_asm); (case w9hX => k_asm); (case w9hT => k_asm); (case w9hf => first | exact rfl | assumption); (case w9hk => first | exact rfl | assumption); (case w9hN => k_asm); (case w9hd => k_room); (case w9hu => (dsimp only [Around.deeper, Around.in1, Around.mark]; omega)); (case w9hx => first | assumption | omega); (case w9ho => assumption); k_whole); intro v_w tk_w_w h_w ho_w N_w F_w; (try k_sweep); ((rcases value_three ho_w with ⟨e_w, ev_w⟩ | ⟨y_w, t_w, e_w, ev_w⟩ | ⟨i_w, t_w, e_w, ev_w⟩) <;> subst ev_w))
  k_with "call ref" => (k_here; (with_reducible show wpAny _ _ (call (Value.ref 106) _) _ _ _); refine wpAny_call ?_; k_dflt (refine' fitted_spec ⟨?w9hB, ?w9hF, ?w9hX, ?w9hT, ?w9hf, ?w9hk⟩ ?w9hN ?w9hd ?w9hu ?w9hx ?w9ho ?w9hK ?w9hks ?w9hkl ?_; (case w9hF => k_asm); (case w9hB => k_asm); (case w9hX => k_asm); (case w9hT => k_asm); (case w9hf => first | exact rfl | assumption); (case w9hk => first | exact rfl | assumption); (case w9hN => k_asm); (case w9hd => k_room); (case w9hu => (dsimp only [Around.deeper, Around.in1, Around.mark]; omega)); (case w9hx => first | assumption | omega); (case w9ho => assumption); (case w9hK => k_mem); (case w9hks => assumption); (case w9hkl => assumption); k_whole); intro v_w tk_w_w h_w ho_w F_w; (try k_sweep); ((rcases fit_cases ho_w with ⟨e_w, ev_w, N_w⟩ | ⟨ds_w, l_w, vs_w, n_w, e_w, ev_w, D_w, N_w, l1_w⟩) <;> subst ev_w <;> clear ho_w))
  trivial
local macro_rules | `(tactic| k_get) => `(tactic| first | assumption | exact getL_put_self (by k_get) | exact getL_put_ne (by decide) (by k_get) (by k_get) | (refine' isSome_of ?kgz; (case kgz => k_get)))
theorem wd_A_14 : True := by
  k_with "setAttr ref" => (k_here; k_dflt (refine' set_dict ?w9k1 ?w9k2 ?w9k3 ?w9k4 ?w9k5 ?w9k6 ?w9k7 ?w9k8 ?w9k9 ?w9k10 ?w9k11 ?w9k12 ?w9k13 ?_; (case w9k1 => k_asm); (case w9k2 => k_asm); (case w9k3 => k_asm); (case w9k4 => k_inst); (case w9k5 => exact rfl); (case w9k6 => k_is); (case w9k7 => k_is); (case w9k8 => k_is); (case w9k9 => k_is); (case w9k10 => k_get); (case w9k11 => exact rfl); (case w9k12 => k_upd); (case w9k13 => (repeat rw [putL_len (by k_get)]); omega); k_whole; intro h_w F_w N_w; (try k_sweep)))
  k_with "call builtin:len" => (k_here; (with_reducible show wpAny _ _ (call (Value.builtin "len") [Value.ref _]) _ _ _); k_dflt (first | (refine' len_ledC ?w9N ?w9m ?w9z ?_; (case w9N => k_asm); (case w9m => k_mem); (case w9z => omega); k_whole) | (refine' len_ledN ?w9N ?w9m ?_; (case w9N => k_asm); (case w9m => k_mem); k_whole)))
  trivial
theorem off_Wd1 : True := by
  w_top off
  trivial
section
variable {w : World} {hd : Option Value} {dp un : Nat} {gd : Option (List Code)} {env : Env} {outer : List Env} {A₀ : Around} {base h₀ : Heap} {L : Addr} {m : Str → Option Value}
    {p : Program} {loose : List Str} {mean : ExcName → Option Value} {mg mb : Str → Option Value} {s : Shared} {R : Result → Shared → Prop}
    {rest : List (Addr × Obj)}
/-- the row that write_prompt makes -/
def promptRow (row : Str) (po : Option Str) (b : Bool) : Str := row ++ (match po with | none => Str.ofString "" | some y => y) ++ (match b with | true => Str.ofString "? " | false => Str.ofString "")
/-- the rows that are written then -/
def prompted (outs : List Str) (R : Str) : List Str := if (R != Str.ofString "") = true then outs ++ [R] else outs
theorem push_texts {ovs : List Value} {outs : List Str} {R : Str} {t : Tok} (hO : DatAll [] ovs (outs.map Dat.str)) : DatAll [] (ovs ++ [.str R t]) ((outs ++ [R]).map Dat.str) := by
  rw [List.map_append]
  exact hO.append (.one (.str _ _))
theorem push_list {ovs : List Value} {V : Value} : ovs.toArray.push V = (ovs ++ [V]).toArray := by simp
theorem prompt_spec {x dx io oo n ni no : Nat} {es : List DictEntry} {ivs ovs : List Value} {row : Str} {outs : List Str} {pv : Value} {po : Option Str} {b : Bool}
    (H : Here w A₀ base outer h₀ L m p loose mean mg mb env s)
    (N : News h₀ L s.heap ((dx, dictOf es n) :: (x, instObj 152 dx) :: (io, listOf ivs.toArray ni) :: (oo, listOf ovs.toArray no) :: rest))
    (hdp : dp + 20 < recursionLimit) (hW : WD es row io oo) (hO : DatAll [] ovs (outs.map Dat.str)) (hol : ovs.length ≤ 1000) (hp : OptV po pv) (hpl : ∀ y, po = some y → y.length ≤ 100) (hrl : row.length ≤ 100)
    (d1 : dx ≠ x) (d2 : dx ≠ io) (d3 : dx ≠ oo) (d5 : x ≠ oo) (d6 : io ≠ oo) (r1 : ∀ p ∈ rest, p.1 ≠ dx) (r2 : ∀ p ∈ rest, p.1 ≠ oo)
    (post : ∀ (es' : List DictEntry) (n' : Nat) (ovs' : List Value) (no' : Nat) tk'' h', WD es' (Str.ofString "") io oo → DatAll [] ovs' ((prompted outs (promptRow row po b)).map Dat.str) → ovs'.length ≤ ovs.length + 1 →
      Fr h₀ L h' m → News h₀ L h' ((dx, dictOf es' n') :: (x, instObj 152 dx) :: (io, listOf ivs.toArray ni) :: (oo, listOf ovs'.toArray no') :: rest) → R (.ok (.ret .none)) { s with heap := h', toks := tk'' }) :
    codeAny (model Challenge.rw_sm0001_01.row.prog w) (At none dp un gd env outer) (.call (.ref 120) ⟨[.ref x, pv, .bool b], []⟩) R s := by
  have hW0 := hW
  obtain ⟨⟨tr, hr⟩, hi, ho, hlen⟩ := hW
  obtain ⟨B, F, X, T, hf, hke⟩ := H
  have hpl' : (match po with | none => Str.ofString "" | some y => y).length ≤ 100 := by
    cases po with
    | none => decide +kernel
    | some y => exact hpl y rfl
  rcases optV_cases hp with ⟨rfl, rfl⟩ | ⟨y, t, rfl, rfl⟩
  all_goals dsimp only at hpl'
  all_goals cases b
  all_goals
    refine' code_def (A := At none dp un gd env outer) (env := env) (outer := outer) B F X N T rfl hf hke ?k6 ?k7 ?hroom ?k9 ?kB ?_ ?c2 ?c3 ?c4 ?c5
    case k6 => k_dflt k_is
    case k7 => k_dflt k_is
    case hroom => k_room
    case k9 => exact BindsTo.of_eq rfl
    case c5 => decide
    case kB => exact locs rfl
    case c2 => exact rfl
    case c3 => exact rfl
    case c4 => exact rfl
    intro g' L' h' FG' F' N' B' X' T'
    dsimp only
    k_fold
    k_steps
    · rename (_ != Str.ofString "") = true => hne
      rename News h₀ L _ _ => NE
      rw [push_list] at NE
      refine post _ _ _ _ _ _ hW0.setRow.setRow ?_ ?_ (by assumption) NE
      · unfold prompted promptRow
        rw [if_pos hne]
        exact push_texts hO
      · simp
    · rename (_ != Str.ofString "") = false => hne
      rename News h₀ L _ _ => NE
      refine post _ _ _ _ _ _ (hW0.setRowE (eq_of_bne_false hne)) ?_ ?_ (by assumption) NE
      · unfold prompted promptRow
        rw [if_neg (by rw [hne]; decide)]
        exact hO
      · simp
end
theorem wd_A_15 : True := by
  k_with "call ref" => (k_here; (with_reducible show wpAny _ _ (call (Value.ref 120) _) _ _ _); refine wpAny_call ?_; k_dflt (refine' prompt_spec ⟨?w9hB, ?w9hF, ?w9hX, ?w9hT, ?w9hf, ?w9hk⟩ ?w9hN ?w9hd ?w9hW ?w9hO ?w9hol ?w9hp ?w9hpl ?w9hrl ?w9d1 ?w9d2 ?w9d3 ?w9d5 ?w9d6 ?w9r1 ?w9r2 ?_; (case w9hF => k_asm); (case w9hB => k_asm); (case w9hX => k_asm); (case w9hT => k_asm); (case w9hf => first | exact rfl | assumption); (case w9hk => first | exact rfl | assumption); (case w9hN => k_asm); (case w9hd => k_room); (case w9hW => assumption); (case w9hO => assumption); (case w9hol => omega); (case w9hp => assumption); (case w9hpl => assumption); (case w9hrl => assumption); (case w9d1 => assumption); (case w9d2 => assumption); (case w9d3 => assumption); (case w9d5 => assumption); (case w9d6 => assumption); (case w9r1 => assumption); (case w9r2 => assumption); k_whole); intro es_w n_w ovs_w no_w tk_w_w h_w hW_w hO_w hl_w F_w N_w; (try k_sweep); (obtain ⟨⟨tr_w, hr_w⟩, hi_w, ho_w, hlen_w⟩ := (id hW_w)))
  trivial
theorem off_Wd2 : True := by
  w_top off
  trivial
section
variable {w : World} {hd : Option Value} {dp un : Nat} {gd : Option (List Code)} {env : Env} {outer : List Env} {A₀ : Around} {base h₀ : Heap} {L : Addr} {m : Str → Option Value}
    {p : Program} {loose : List Str} {mean : ExcName → Option Value} {mg mb : Str → Option Value} {s : Shared} {R : Result → Shared → Prop}
    {rest : List (Addr × Obj)}
theorem ask_line_spec {x dx io oo n ni no : Nat} {es : List DictEntry} {ivs ovs : List Value} {row r : Str} {outs : List Str} {pv : Value} {po : Option Str} {tr0 : Tok}
    (H : Here w A₀ base outer h₀ L m p loose mean mg mb env s)
    (N : News h₀ L s.heap ((dx, dictOf es n) :: (x, instObj 152 dx) :: (io, listOf (.str r tr0 :: ivs).toArray ni) :: (oo, listOf ovs.toArray no) :: rest))
    (hdp : dp + 30 < recursionLimit) (hW : WD es row io oo) (hrr : r.length ≤ 100) (hil : ivs.length ≤ 1000) (hO : DatAll [] ovs (outs.map Dat.str)) (hol : ovs.length ≤ 1000) (hp : OptV po pv) (hpl : ∀ y, po = some y → y.length ≤ 100) (hrl : row.length ≤ 100)
    (d1 : dx ≠ x) (d2 : dx ≠ io) (d3 : dx ≠ oo) (d4 : x ≠ io) (d5 : x ≠ oo) (d6 : io ≠ oo) (r1 : ∀ p ∈ rest, p.1 ≠ dx) (r2 : ∀ p ∈ rest, p.1 ≠ oo) (r3 : ∀ p ∈ rest, p.1 ≠ io)
    (post : ∀ (es' : List DictEntry) (n' : Nat) (ovs' : List Value) (no' : Nat) tk'' h', WD es' (Str.ofString "") io oo → DatAll [] ovs' ((prompted outs (promptRow row po false)).map Dat.str) → ovs'.length ≤ ovs.length + 1 →
      Fr h₀ L h' m → News h₀ L h' ((dx, dictOf es' n') :: (x, instObj 152 dx) :: (io, listOf ivs.toArray (ni + 1)) :: (oo, listOf ovs'.toArray no') :: rest) → R (.ok (.ret (.str r tr0))) { s with heap := h', toks := tk'' }) :
    codeAny (model Challenge.rw_sm0001_01.row.prog w) (At none dp un gd env outer) (.call (.ref 134) ⟨[.ref x, pv], []⟩) R s := by
  have hW0 := hW
  obtain ⟨⟨tr, hr⟩, hi, ho, hlen⟩ := hW
  have hsz : (Value.str r tr0 :: ivs).length ≤ 1001 := by simp; omega
  obtain ⟨B, F, X, T, hf, hke⟩ := H
  refine' code_def (A := At none dp un gd env outer) (env := env) (outer := outer) B F X N T rfl hf hke ?k6 ?k7 ?hroom ?k9 ?kB ?_ ?c2 ?c3 ?c4 ?c5
  case k6 => k_dflt k_is
  case k7 => k_dflt k_is
  case hroom => k_room
  case k9 => exact BindsTo.of_eq rfl
  case c5 => decide
  case kB => exact locs rfl
  case c2 => exact rfl
  case c3 => exact rfl
  case c4 => exact rfl
  intro g' L' h' FG' F' N' B' X' T'
  dsimp only
  k_fold
  k_steps
  all_goals try (exfalso; omega)
  exact post _ _ _ _ _ _ (by assumption) (by assumption) (by assumption) (by assumption) (by assumption)
theorem ask_line_wait {x dx io oo n ni no : Nat} {es : List DictEntry} {ovs : List Value} {row : Str} {pv : Value}
    (H : Here w A₀ base outer h₀ L m p loose mean mg mb env s)
    (N : News h₀ L s.heap ((dx, dictOf es n) :: (x, instObj 152 dx) :: (io, listOf ([] : List Value).toArray ni) :: (oo, listOf ovs.toArray no) :: rest))
    (hdp : dp + 30 < recursionLimit) (hW : WD es row io oo)
    (post : ∀ e t tk'' h' g, Fr h₀ L g m → g.UpToSlots h' → RaisedS base g (env :: outer) e (.ref 61) t [] ((dx, dictOf es n) :: (x, instObj 152 dx) :: (io, listOf ([] : List Value).toArray ni) :: (oo, listOf ovs.toArray no) :: rest) h' → R (.error (.ref e)) { s with heap := h', toks := tk'' }) :
    codeAny (model Challenge.rw_sm0001_01.row.prog w) (At none dp un gd env outer) (.call (.ref 134) ⟨[.ref x, pv], []⟩) R s := by
  obtain ⟨⟨tr, hr⟩, hi, ho, hlen⟩ := hW
  obtain ⟨B, F, X, T, hf, hke⟩ := H
  refine' code_def (A := At none dp un gd env outer) (env := env) (outer := outer) B F X N T rfl hf hke ?k6 ?k7 ?hroom ?k9 ?kB ?_ ?c2 ?c3 ?c4 ?c5
  case k6 => k_dflt k_is
  case k7 => k_dflt k_is
  case hroom => k_room
  case k9 => exact BindsTo.of_eq rfl
  case c5 => decide
  case kB => exact locs rfl
  case c2 => exact rfl
  case c3 => exact rfl
  case c4 => exact rfl
  intro g' L' h' FG' F' N' B' X' T'
  dsimp only
  k_fold
  k_steps
  all_goals try (exfalso; omega)
  exact post _ _ _ _ _ FG' (by assumption) (by assumption)
end
theorem wd_A_16 : True := by
  k_with "call ref" => (k_here; (with_reducible show wpAny _ _ (call (Value.ref 134) _) _ _ _); refine wpAny_call ?_; k_dflt (first
      | (refine' ask_line_wait ⟨?w9hB, ?w9hF, ?w9hX, ?w9hT, ?w9hf, ?w9hk⟩ ?w9hN ?w9hd ?w9hW ?_; (case w9hF => k_asm); (case w9hB => k_asm); (case w9hX => k_asm); (case w9hT => k_asm); (case w9hf => first | exact rfl | assumption); (case w9hk => first | exact rfl | assumption); (case w9hN => k_asm); (case w9hd => k_room); (case w9hW => assumption); k_whole; intro e_w t_w tk_w_w h_w g2_w FG2_w U2_w R2_w; (try dsimp only))
      | (refine' ask_line_spec ⟨?w9hB, ?w9hF, ?w9hX, ?w9hT, ?w9hf, ?w9hk⟩ ?w9hN ?w9hd ?w9hW ?w9hrr ?w9hil ?w9hO ?w9hol ?w9hp ?w9hpl ?w9hrl ?w9d1 ?w9d2 ?w9d3 ?w9d4 ?w9d5 ?w9d6 ?w9r1 ?w9r2 ?w9r3 ?_; (case w9hF => k_asm); (case w9hB => k_asm); (case w9hX => k_asm); (case w9hT => k_asm); (case w9hf => first | exact rfl | assumption); (case w9hk => first | exact rfl | assumption); (case w9hN => k_asm); (case w9hd => k_room); (case w9hW => assumption); (case w9hrr => assumption); (case w9hil => omega); (case w9hO => assumption); (case w9hol => omega); (case w9hp => assumption); (case w9hpl => assumption); (case w9hrl => assumption); (case w9d1 => assumption); (case w9d2 => assumption); (case w9d3 => assumption); (case w9d4 => assumption); (case w9d5 => assumption); (case w9d6 => assumption); (case w9r1 => assumption); (case w9r2 => assumption); (case w9r3 => assumption); k_whole; intro es_w n_w ovs_w no_w tk_w_w h_w hW_w hO_w hl_w F_w N_w; (try dsimp only)); (try k_sweep)))
  trivial
theorem off_Wd3 : True := by
  w_top off
  trivial
section
variable {w : World} {hd : Option Value} {dp un : Nat} {gd : Option (List Code)} {env : Env} {outer : List Env} {A₀ : Around} {base h₀ : Heap} {L : Addr} {m : Str → Option Value}
    {p : Program} {loose : List Str} {mean : ExcName → Option Value} {mg mb : Str → Option Value} {s : Shared} {R : Result → Shared → Prop}
    {rest : List (Addr × Obj)}
def againRow : Str := Str.ofString "?Redo from start"
/-- what ask_values does to the rows: g is fitted_values -/
def askV (g : Str → Option (List Dat)) (po : Option Str) (b : Bool) : List Str → Str → List Str → Option (List Dat) × List Str × Str × List Str
  | outs, row, [] => (none, outs, row, [])
  | outs, row, r :: ins => match g r with
    | some ds => (some ds, prompted outs (promptRow row po b), Str.ofString "", ins)
    | none => askV g po b (prompted outs (promptRow row po b) ++ [againRow]) (Str.ofString "") ins
theorem again_is : Str.ofString "" ++ Str.ofString "?Redo from start" = againRow := by decide +kernel
/-- what the frame of ask_values holds -/
def AskNames (x Kd : Nat) (pv : Value) (b : Bool) (M : Str → Option Value) : Prop :=
  M (Str.ofString "world") = some (.ref x) ∧ M (Str.ofString "prompt") = some pv ∧ M (Str.ofString "is_marked") = some (.bool b) ∧ M (Str.ofString "kinds") = some (.ref Kd) ∧ M (Str.ofString "read_number") = some (.ref 180)
theorem AskNames.set {x Kd : Nat} {pv : Value} {b : Bool} {M : Str → Option Value} {v : Option Value} (h : AskNames x Kd pv b M) : AskNames x Kd pv b (fun y => if y = Str.ofString "found" then v else M y) :=
  ⟨Eq.trans (if_neg (by decide)) h.1, Eq.trans (if_neg (by decide)) h.2.1, Eq.trans (if_neg (by decide)) h.2.2.1, Eq.trans (if_neg (by decide)) h.2.2.2.1, Eq.trans (if_neg (by decide)) h.2.2.2.2⟩
/-- the loop of ask_values: no fitting row yet -/
def AskOpen (g : Heap) (L x dx io oo Kd : Nat) (pv : Value) (b : Bool) (rest : List (Addr × Obj)) (outs : List Str) (row : Str) (ins : List Str) (h : Heap) : Prop :=
  row.length ≤ 100 ∧ (∀ r ∈ ins, r.length ≤ 100 ∧ PyData.strOk r = true) ∧ ∃ (M : Str → Option Value) (es : List DictEntry) (n : Nat) (ivs : List Value) (ni : Nat) (ovs : List Value) (no : Nat),
    Fr g L h M ∧ AskNames x Kd pv b M ∧ M (Str.ofString "found") = some .none ∧ WD es row io oo ∧ DatAll [] ivs (ins.map Dat.str) ∧ DatAll [] ovs (outs.map Dat.str) ∧ ovs.length + 2 * ivs.length ≤ 900 ∧
    News g L h ((dx, dictOf es n) :: (x, instObj 152 dx) :: (io, listOf ivs.toArray ni) :: (oo, listOf ovs.toArray no) :: rest)
/-- the loop of ask_values: a row has fitted -/
def AskDone (g : Heap) (L x dx io oo : Nat) (rest : List (Addr × Obj)) (outs : List Str) (row : Str) (ins : List Str) (ds : List Dat) (h : Heap) : Prop :=
  ∃ (M : Str → Option Value) (es : List DictEntry) (n : Nat) (ivs : List Value) (ni : Nat) (ovs : List Value) (no l : Nat) (vs : List Value) (nl : Nat),
    Fr g L h M ∧ M (Str.ofString "found") = some (.ref l) ∧ WD es row io oo ∧ DatAll [] ivs (ins.map Dat.str) ∧ DatAll [] ovs (outs.map Dat.str) ∧ ovs.length + 2 * ivs.length ≤ 900 ∧ DatAll [] vs ds ∧
    News g L h ((l, listOf vs.toArray nl) :: (dx, dictOf es n) :: (x, instObj 152 dx) :: (io, listOf ivs.toArray ni) :: (oo, listOf ovs.toArray no) :: rest) ∧ dx < l ∧ x < l ∧ io < l ∧ oo < l ∧ (∀ q ∈ rest, q.1 < l)
def AskAt (g : Heap) (L x dx io oo Kd : Nat) (pv : Value) (b : Bool) (rest : List (Addr × Obj)) (c : (List Str × Str × List Str) × Option (List Dat)) (h : Heap) : Prop :=
  match c.2 with
  | none => AskOpen g L x dx io oo Kd pv b rest c.1.1 c.1.2.1 c.1.2.2 h
  | some ds => AskDone g L x dx io oo rest c.1.1 c.1.2.1 c.1.2.2 ds h
def askOut (g : Str → Option (List Dat)) (po : Option Str) (b : Bool) (c : (List Str × Str × List Str) × Option (List Dat)) : Option (List Dat) × List Str × Str × List Str :=
  match c.2 with
  | none => askV g po b c.1.1 c.1.2.1 c.1.2.2
  | some ds => (some ds, c.1)
theorem ask_values_spec {x dx io oo n ni no nk Kd : Nat} {es : List DictEntry} {ivs ovs kvs : List Value} {row : Str} {outs ins ks : List Str} {pv : Value} {po : Option Str} {b : Bool}
    (H : Here w A₀ base outer h₀ L m p loose mean mg mb env s)
    (N : News h₀ L s.heap ((dx, dictOf es n) :: (x, instObj 152 dx) :: (io, listOf ivs.toArray ni) :: (oo, listOf ovs.toArray no) :: rest))
    (hdp : dp + 60 < recursionLimit) (hun : un + 130 < cLine) (hW : WD es row io oo) (hI : DatAll [] ivs (ins.map Dat.str)) (hir : ∀ r ∈ ins, r.length ≤ 100 ∧ PyData.strOk r = true) (hO : DatAll [] ovs (outs.map Dat.str)) (hol : ovs.length + 2 * ivs.length ≤ 900) (hp : OptV po pv) (hpl : ∀ y, po = some y → y.length ≤ 100) (hrl : row.length ≤ 100)
    (hK : (Kd, listOf kvs.toArray nk) ∈ rest) (hks : DatAll [] kvs (ks.map Dat.str)) (hkl : ks.length ≤ 10)
    (d1 : dx ≠ x) (d2 : dx ≠ io) (d3 : dx ≠ oo) (d4 : x ≠ io) (d5 : x ≠ oo) (d6 : io ≠ oo) (r1 : ∀ p ∈ rest, p.1 ≠ dx) (r2 : ∀ p ∈ rest, p.1 ≠ oo) (r3 : ∀ p ∈ rest, p.1 ≠ io)
    (post : ∀ ds outs' row' ins' h' tk (l : Nat) (vs : List Value) (nl : Nat) (es' : List DictEntry) (n' : Nat) (ivs' : List Value) (ni' : Nat) (ovs' : List Value) (no' : Nat), askV (fit ks) po b outs row ins = (some ds, outs', row', ins') →
      WD es' row' io oo → DatAll [] ivs' (ins'.map Dat.str) → DatAll [] ovs' (outs'.map Dat.str) → ovs'.length + 2 * ivs'.length ≤ 900 → DatAll [] vs ds → Fr h₀ L h' m →
      News h₀ L h' ((l, listOf vs.toArray nl) :: (dx, dictOf es' n') :: (x, instObj 152 dx) :: (io, listOf ivs'.toArray ni') :: (oo, listOf ovs'.toArray no') :: rest) → dx < l → x < l → io < l → oo < l → (∀ q ∈ rest, q.1 < l) →
      R (.ok (.ret (.ref l))) { s with heap := h', toks := tk })
    (postR : ∀ outs' row' h' tk e t (es' : List DictEntry) (n' : Nat) (ivs' : List Value) (ni' : Nat) (ovs' : List Value) (no' : Nat) g, askV (fit ks) po b outs row ins = (none, outs', row', []) →
      WD es' row' io oo → DatAll [] ivs' ([].map Dat.str) → DatAll [] ovs' (outs'.map Dat.str) → ovs'.length + 2 * ivs'.length ≤ 900 → row'.length ≤ 100 → Fr h₀ L g m → g.UpToSlots h' →
      RaisedS base g (env :: outer) e (.ref 61) t [] ((dx, dictOf es' n') :: (x, instObj 152 dx) :: (io, listOf ivs'.toArray ni') :: (oo, listOf ovs'.toArray no') :: rest) h' → R (.error (.ref e)) { s with heap := h', toks := tk }) :
    codeAny (model Challenge.rw_sm0001_01.row.prog w) (At none dp un gd env outer) (.call (.ref 127) ⟨[.ref x, pv, .bool b, .ref Kd, .ref 180], []⟩) R s := by
  obtain ⟨B, F, X, T, hf, hke⟩ := H
  refine' code_def (A := At none dp un gd env outer) (env := env) (outer := outer) B F X N T rfl hf hke ?k6 ?k7 ?hroom ?k9 ?kB ?_ ?c2 ?c3 ?c4 ?c5
  case k6 => k_dflt k_is
  case k7 => k_dflt k_is
  case hroom => k_room
  case k9 => exact BindsTo.of_eq rfl
  case c5 => decide
  case kB => exact locs rfl
  case c2 => exact rfl
  case c3 => exact rfl
  case c4 => exact rfl
  intro g' L' h' FG' F' N' B' X' T'
  dsimp only
  k_fold
  have hWI : ∃ M, Fr g' L' h' M ∧ AskNames x Kd pv b M := ⟨_, F', rfl, rfl, rfl, rfl, rfl⟩
  clear F'
  obtain ⟨M0, F', hM0⟩ := hWI
  k_steps
  unfold Stop
  refine whl_loop (s := s) (fun c h => askV (fit ks) po b outs row ins = askOut (fit ks) po b c ∧ AskAt g' L' x dx io oo Kd pv b rest c h) (fun c => match c.2 with | none => c.1.2.2.length + 1 | some _ => 0) ?hE ?turn ((outs, row, ins), none) ⟨rfl, ?h0⟩
  case hE => first | passes_own | with_unfolding_all passes_own
  case h0 => exact ⟨hrl, hir, _, es, n, ivs, ni, ovs, no, by assumption, hM0.set, if_pos rfl, hW, hI, hO, hol, by assumption⟩
  case turn =>
    rename News g' _ _ _ => NX
    rename Fr g' _ _ _ => FX
    clear NX FX hW hI hir hO hol hrl
    rintro ⟨⟨outs1, row1, ins1⟩, fo⟩ h tk ⟨hout, hst⟩
    cases fo with
    | some ds =>
      obtain ⟨M, es, n, ivs, ni, ovs, no, l, vs, nl, FM, hMf, hW, hI, hO, hol, hds, N', l1, l2, l3, l4, l5⟩ := hst
      k_steps
      exact post ds outs1 row1 ins1 _ _ l vs nl es n ivs ni ovs no hout hW hI hO hol hds (by assumption) (by assumption) l1 l2 l3 l4 l5
    | none =>
      obtain ⟨hrl, hir, M, es, n, ivs, ni, ovs, no, FM, hMn, hMf, hW, hI, hO, hol, N'⟩ := hst
      dsimp only at hrl hir hW hI hO
      obtain ⟨⟨tr, hr⟩, hi, ho, hlen⟩ := (id hW : WD _ _ _ _)
      obtain ⟨hMw, hMp, hMm, hMk, hMr⟩ := (id hMn : AskNames _ _ _ _ _)
      cases ins1 with
      | nil =>
        cases hI
        k_steps
        all_goals try (exfalso; omega)
        exact postR outs1 row1 _ _ _ _ es n [] ni ovs no _ hout hW .nil hO hol hrl FG' (by assumption) (by assumption)
      | cons r ins1 =>
        cases hI with
        | cons h1 hI =>
          cases h1
          obtain ⟨hrl1, hrk1⟩ := hir r (.head _)
          simp only [List.length_cons] at hol
          k_steps
          all_goals try (exfalso; omega)
          · unfold Stop
            rename fit ks r = none => ef
            rename WD _ (Str.ofString "") _ _ => hW2
            rename DatAll [] _ (List.map Dat.str (prompted _ _)) => hO2
            rename News g' _ _ _ => NE
            rw [push_list] at NE
            have hO3 := push_texts (R := Str.ofString "" ++ Str.ofString "?Redo from start") (t := 0) hO2
            refine ⟨((prompted outs1 (promptRow row1 po b) ++ [againRow], Str.ofString "", ins1), none), _, _, rfl, ?_, ?_, ?_⟩
            · show ins1.length + 1 < (r :: ins1).length + 1
              simp
            · rw [hout]
              show askV (fit ks) po b outs1 row1 (r :: ins1) = _
              rw [askV, ef]
              rfl
            · refine ⟨(by decide +kernel : (Str.ofString "").length ≤ 100), fun q hq => hir q (.tail _ hq), _, _, _, _, _, _, _, by assumption, hMn.set, if_pos rfl, hW2.setRow.setRow, hI, ?_, ?_, NE⟩
              · rw [← again_is]; exact push_texts hO2
              · simp only [List.length_append, List.length_cons, List.length_nil]; omega
          · unfold Stop
            rename fit ks r = some _ => ef
            obtain ⟨ds, e⟩ := nm_some ef
            subst e
            rename WD _ (Str.ofString "") _ _ => hW2
            rename DatAll [] _ (List.map Dat.str (prompted _ _)) => hO2
            rename News g' _ _ _ => NE
            obtain ⟨l, e⟩ := nm_first NE
            subst e
            rename (∀ (q : Addr × Obj), q ∈ _ → q.1 < l) => hl5
            refine ⟨((prompted outs1 (promptRow row1 po b), Str.ofString "", ins1), some ds), _, _, rfl, ?_, ?_, ?_⟩
            · show 0 < (r :: ins1).length + 1
              simp
            · rw [hout]
              show askV (fit ks) po b outs1 row1 (r :: ins1) = _
              rw [askV, ef]
              rfl
            · refine ⟨_, _, _, _, _, _, _, _, _, _, by assumption, if_pos rfl, hW2, hI, hO2, by omega, by assumption, NE, ?_, ?_, ?_, ?_, ?_⟩
              · exact hl5 _ (.head _)
              · exact hl5 _ (.tail _ (.head _))
              · exact hl5 _ (.tail _ (.tail _ (.head _)))
              · exact hl5 _ (.tail _ (.tail _ (.tail _ (.head _))))
              · exact fun q hq => hl5 _ (.tail _ (.tail _ (.tail _ (.tail _ hq))))
end
theorem wd_A_17 : True := by
  k_with "call ref" => (k_here; (with_reducible show wpAny _ _ (call (Value.ref 127) _) _ _ _); refine wpAny_call ?_; k_dflt (refine' ask_values_spec ⟨?w9hB, ?w9hF, ?w9hX, ?w9hT, ?w9hf, ?w9hk⟩ ?w9hN ?w9hd ?w9hu ?w9hW ?w9hI ?w9hir ?w9hO ?w9hol ?w9hp ?w9hpl ?w9hrl ?w9hK ?w9hks ?w9hkl ?w9d1 ?w9d2 ?w9d3 ?w9d4 ?w9d5 ?w9d6 ?w9r1 ?w9r2 ?w9r3 (fun ds_w outs_w row_w ins_w h_w tk_w l_w vs_w nl_w es_w n_w ivs_w ni_w ovs_w no_w e_w hW_w hI_w hO_w hol_w hds_w F_w N_w l1_w l2_w l3_w l4_w l5 => ?_) (fun outs_w row_w h_w tk_w e_w t_w es_w n_w ivs_w ni_w ovs_w no_w g2_w ee_w hW_w hI_w hO_w hol_w hrl_w FG2_w U2_w R2_w => ?_); (case w9hF => k_asm); (case w9hB => k_asm); (case w9hX => k_asm); (case w9hT => k_asm); (case w9hf => first | exact rfl | assumption); (case w9hk => first | exact rfl | assumption); (case w9hN => k_asm); (case w9hd => k_room); (case w9hu => (dsimp only [Around.deeper, Around.in1, Around.mark]; omega)); (case w9hW => assumption); (case w9hI => assumption); (case w9hir => assumption); (case w9hO => assumption); (case w9hol => omega); (case w9hp => assumption); (case w9hpl => assumption); (case w9hrl => assumption); (case w9hK => k_mem); (case w9hks => assumption); (case w9hkl => assumption); (case w9d1 => assumption); (case w9d2 => assumption); (case w9d3 => assumption); (case w9d4 => assumption); (case w9d5 => assumption); (case w9d6 => assumption); (case w9r1 => assumption); (case w9r2 => assumption); (case w9r3 => assumption); (try dsimp only); (try k_sweep)))
  trivial
theorem off_Wd4p : True := by
  w_top off
  trivial
section
variable {w : World} {hd : Option Value} {dp un : Nat} {gd : Option (List Code)} {env : Env} {outer : List Env} {A₀ : Around} {base h₀ : Heap} {L : Addr} {m : Str → Option Value}
    {p : Program} {loose : List Str} {mean : ExcName → Option Value} {mg mb : Str → Option Value} {s : Shared} {R : Result → Shared → Prop}
    {rest : List (Addr × Obj)}
theorem pick_all (vs : List Value) : kms_pick vs.toArray.toList none none = vs := by simp [kms_pick, kms_lo, kms_hi]
theorem pick_first (vs : List Value) : kms_pick vs.toArray.toList none (some 1) = vs.take 1 := by
  simp only [kms_pick, kms_lo, kms_hi, List.drop_zero, Nat.sub_zero]
  cases vs <;> simp
theorem pick_rest (vs : List Value) : kms_pick vs.toArray.toList (some 1) none = vs.drop 1 := by
  simp only [kms_pick, kms_lo, kms_hi]
  cases vs <;> simp
theorem pick_init (vs : List Value) : kms_pick vs.toArray.toList none (some (-1)) = vs.dropLast := by
  simp only [kms_pick, kms_lo, kms_hi, List.drop_zero, Nat.sub_zero]
  simp [List.dropLast_eq_take]
end
theorem wd_A_18 : True := by
  k_with "subscriptTail Name Slice ref ref" => (k_here; (with_reducible show wpAny _ _ (subscriptTail _ (PySem.Expr.Slice _ _ none _) (Value.ref _) (Value.ref _)) _ _ _); k_dflt (refine' kms_slice_lit ?w9F ?w9N ?w9l ?w9p ?w9q ?w9e ?_ ?w9s ?w9t ?w9z; (case w9F => k_asm); (case w9N => k_asm); (case w9l => kmk_list); (case w9p => kmk_part); (case w9q => kmk_part); (case w9e => first | exact pick_all _ | exact pick_first _ | exact pick_rest _ | exact pick_init _); (case w9s => with_unfolding_all rfl); (case w9t => kmk_pure); (case w9z => rw [List.size_toArray, sizeLine_eq]; omega)); intro D_w h_w F_w N_w l1_w; (try k_lt l1_w); (try k_sweep))
  trivial
theorem off_Wd4 : True := by
  w_top off
  trivial
section
variable {w : World} {hd : Option Value} {dp un : Nat} {gd : Option (List Code)} {env : Env} {outer : List Env} {A₀ : Around} {base h₀ : Heap} {L : Addr} {m : Str → Option Value}
    {p : Program} {loose : List Str} {mean : ExcName → Option Value} {mg mb : Str → Option Value} {s : Shared} {R : Result → Shared → Prop}
    {rest : List (Addr × Obj)}
theorem state_spec {x dx io oo n ni no : Nat} {es : List DictEntry} {ivs ovs : List Value} {row : Str} {outs ins : List Str}
    (H : Here w A₀ base outer h₀ L m p loose mean mg mb env s)
    (N : News h₀ L s.heap ((dx, dictOf es n) :: (x, instObj 152 dx) :: (io, listOf ivs.toArray ni) :: (oo, listOf ovs.toArray no) :: rest))
    (hdp : dp + 10 < recursionLimit) (hW : WD es row io oo) (hI : DatAll [] ivs (ins.map Dat.str)) (hO : DatAll [] ovs (outs.map Dat.str)) (hol : ovs.length ≤ 1000) (hil : ivs.length ≤ 1000)
    (post : ∀ (D D1 D2 : Nat) t h' tk, D2 < D1 → D1 < D → AllLt D2 ((dx, dictOf es n) :: (x, instObj 152 dx) :: (io, listOf ivs.toArray ni) :: (oo, listOf ovs.toArray no) :: rest) → Fr h₀ L h' m →
      News h₀ L h' ((D, tupO #[.ref D2, .str row t, .ref D1]) :: (D1, listOf ivs.toArray 0) :: (D2, listOf ovs.toArray 0) :: (dx, dictOf es n) :: (x, instObj 152 dx) :: (io, listOf ivs.toArray ni) :: (oo, listOf ovs.toArray no) :: rest) →
      R (.ok (.ret (.ref D))) { s with heap := h', toks := tk }) :
    codeAny (model Challenge.rw_sm0001_01.row.prog w) (At hd dp un gd env outer) (.call (.ref 194) ⟨[.ref x], []⟩) R s := by
  obtain ⟨⟨tr, hr⟩, hi, ho, hlen⟩ := (id hW : WD _ _ _ _)
  obtain ⟨B, F, X, T, hf, hke⟩ := H
  refine' code_def (A := At hd dp un gd env outer) (env := env) (outer := outer) B F X N T rfl hf hke ?k6 ?k7 ?hroom ?k9 ?kB ?_ ?c2 ?c3 ?c4 ?c5
  case k6 => k_dflt k_is
  case k7 => k_dflt k_is
  case hroom => k_room
  case k9 => exact BindsTo.of_eq rfl
  case c5 => decide
  case kB => exact locs rfl
  case c2 => exact rfl
  case c3 => exact rfl
  case c4 => exact rfl
  intro g' L' h' FG' F' N' B' X' T'
  dsimp only
  k_fold
  k_steps
  rename News h₀ L _ _ => NE
  refine post _ _ _ _ _ _ ?_ ?_ ?_ (by assumption) NE
  · omega
  · omega
  · assumption
end
theorem wd_A_19 : True := by
  k_with "call ref" => (k_here; (with_reducible show wpAny _ _ (call (Value.ref 194) _) _ _ _); refine wpAny_call ?_; k_dflt (refine' state_spec ⟨?w9hB, ?w9hF, ?w9hX, ?w9hT, ?w9hf, ?w9hk⟩ ?w9hN ?w9hd ?w9hW ?w9hI ?w9hO ?w9hol ?w9hil ?_; (case w9hF => k_asm); (case w9hB => k_asm); (case w9hX => k_asm); (case w9hT => k_asm); (case w9hf => first | exact rfl | assumption); (case w9hk => first | exact rfl | assumption); (case w9hN => k_asm); (case w9hd => k_room); (case w9hW => assumption); (case w9hI => assumption); (case w9hO => assumption); (case w9hol => omega); (case w9hil => omega); k_whole); intro D_w D1_w D2_w t_w h_w tk_w q1_w q2_w q3_w F_w N_w; (try simp only [AllLt] at q3_w); (try k_sweep))
  trivial
theorem off_Wd5 : True := by
  w_top off
  trivial
section
variable {w : World} {hd : Option Value} {dp un : Nat} {gd : Option (List Code)} {env : Env} {outer : List Env} {A₀ : Around} {base h₀ : Heap} {L : Addr} {m : Str → Option Value}
    {p : Program} {loose : List Str} {mean : ExcName → Option Value} {mg mb : Str → Option Value} {s : Shared} {R : Result → Shared → Prop}
    {rest : List (Addr × Obj)}
/-- an order of the law -/
structure Ord where
  ks : Option (List Str)
  po : Option Str
  b : Bool
/-- what _law_asked does -/
def asked (o : Ord) (outs : List Str) (row : Str) (ins : List Str) : Option (List Dat) × List Str × Str × List Str :=
  match o.ks with
  | some ks => askV (fit ks) o.po o.b outs row ins
  | none => match ins with
    | [] => (none, outs, row, [])
    | r :: ins => (some [.str r], prompted outs (promptRow row o.po false), Str.ofString "", ins)
/-- what kinds a value stands for -/
def KindsIn (l : List (Addr × Obj)) (kv : Value) (o : Option (List Str)) : Prop := match o with
  | none => kv = .none
  | some ks => ∃ (Kd : Nat) (kvs : List Value) (nk : Nat), kv = .ref Kd ∧ (Kd, listOf kvs.toArray nk) ∈ l ∧ DatAll [] kvs (ks.map Dat.str) ∧ ks.length ≤ 10
theorem asked_spec {x dx io oo n ni no Od c : Nat} {es : List DictEntry} {ivs ovs : List Value} {row : Str} {outs ins : List Str} {kv pv : Value} {o : Ord}
    (H : Here w A₀ base outer h₀ L m p loose mean mg mb env s)
    (N : News h₀ L s.heap ((dx, dictOf es n) :: (x, instObj 152 dx) :: (io, listOf ivs.toArray ni) :: (oo, listOf ovs.toArray no) :: rest))
    (hdp : dp + 70 < recursionLimit) (hun : un + 140 < cLine) (hW : WD es row io oo) (hI : DatAll [] ivs (ins.map Dat.str)) (hir : ∀ r ∈ ins, r.length ≤ 100 ∧ PyData.strOk r = true) (hO : DatAll [] ovs (outs.map Dat.str)) (hol : ovs.length + 2 * ivs.length ≤ 900) (hp : OptV o.po pv) (hpl : ∀ y, o.po = some y → y.length ≤ 100) (hrl : row.length ≤ 100)
    (hOd : (Od, ({ cls := .type "tuple", data := .seq #[kv, pv, .bool o.b] c } : Obj)) ∈ rest) (hK : KindsIn rest kv o.ks)
    (d1 : dx ≠ x) (d2 : dx ≠ io) (d3 : dx ≠ oo) (d4 : x ≠ io) (d5 : x ≠ oo) (d6 : io ≠ oo) (r1 : ∀ p ∈ rest, p.1 ≠ dx) (r2 : ∀ p ∈ rest, p.1 ≠ oo) (r3 : ∀ p ∈ rest, p.1 ≠ io)
    (post : ∀ ds outs' row' ins' h' tk (l : Nat) (vs : List Value) (nl : Nat) (es' : List DictEntry) (n' : Nat) (ivs' : List Value) (ni' : Nat) (ovs' : List Value) (no' : Nat), asked o outs row ins = (some ds, outs', row', ins') →
      WD es' row' io oo → DatAll [] ivs' (ins'.map Dat.str) → DatAll [] ovs' (outs'.map Dat.str) → ovs'.length + 2 * ivs'.length ≤ 900 → DatAll [] vs ds → Fr h₀ L h' m →
      News h₀ L h' ((l, listOf vs.toArray nl) :: (dx, dictOf es' n') :: (x, instObj 152 dx) :: (io, listOf ivs'.toArray ni') :: (oo, listOf ovs'.toArray no') :: rest) → dx < l → x < l → io < l → oo < l → (∀ q ∈ rest, q.1 < l) →
      R (.ok (.ret (.ref l))) { s with heap := h', toks := tk })
    (postR : ∀ outs' row' h' tk e t (es' : List DictEntry) (n' : Nat) (ivs' : List Value) (ni' : Nat) (ovs' : List Value) (no' : Nat) g, asked o outs row ins = (none, outs', row', []) →
      WD es' row' io oo → DatAll [] ivs' ([].map Dat.str) → DatAll [] ovs' (outs'.map Dat.str) → ovs'.length + 2 * ivs'.length ≤ 900 → row'.length ≤ 100 → Fr h₀ L g m → g.UpToSlots h' →
      RaisedS base g (env :: outer) e (.ref 61) t [] ((dx, dictOf es' n') :: (x, instObj 152 dx) :: (io, listOf ivs'.toArray ni') :: (oo, listOf ovs'.toArray no') :: rest) h' → R (.error (.ref e)) { s with heap := h', toks := tk }) :
    codeAny (model Challenge.rw_sm0001_01.row.prog w) (At none dp un gd env outer) (.call (.ref 187) ⟨[.ref x, .ref Od], []⟩) R s := by
  obtain ⟨ks, po, b⟩ := o
  dsimp only at hp hpl hOd hK
  cases ks with
  | none =>
    have hK : kv = .none := hK
    subst hK
    cases ivs with
    | nil =>
      have e : ins = [] := by cases ins with | nil => rfl | cons _ _ => cases hI
      subst e
      obtain ⟨B, F, X, T, hf, hke⟩ := H
      refine' code_def (A := At none dp un gd env outer) (env := env) (outer := outer) B F X N T rfl hf hke ?k6 ?k7 ?hroom ?k9 ?kB ?_ ?c2 ?c3 ?c4 ?c5
      case k6 => k_dflt k_is
      case k7 => k_dflt k_is
      case hroom => k_room
      case k9 => exact BindsTo.of_eq rfl
      case c5 => decide
      case kB => exact locs rfl
      case c2 => exact rfl
      case c3 => exact rfl
      case c4 => exact rfl
      intro g' L' h' FG' F' N' B' X' T'
      dsimp only
      k_fold
      k_steps
      exact postR outs row _ _ _ _ es n [] ni ovs no _ rfl hW .nil hO hol hrl FG' (by assumption) (by assumption)
    | cons v ivs =>
      cases ins with
      | nil => cases hI
      | cons r ins =>
        cases hI with
        | cons h1 hI =>
          cases h1
          obtain ⟨hrl1, hrk1⟩ := hir r (.head _)
          simp only [List.length_cons] at hol
          obtain ⟨B, F, X, T, hf, hke⟩ := H
          refine' code_def (A := At none dp un gd env outer) (env := env) (outer := outer) B F X N T rfl hf hke ?k6 ?k7 ?hroom ?k9 ?kB ?_ ?c2 ?c3 ?c4 ?c5
          case k6 => k_dflt k_is
          case k7 => k_dflt k_is
          case hroom => k_room
          case k9 => exact BindsTo.of_eq rfl
          case c5 => decide
          case kB => exact locs rfl
          case c2 => exact rfl
          case c3 => exact rfl
          case c4 => exact rfl
          intro g' L' h' FG' F' N' B' X' T'
          dsimp only
          k_fold
          k_steps
          obtain ⟨m1, m2, m3, m4, m5⟩ := (by assumption : dx < _ ∧ x < _ ∧ io < _ ∧ oo < _ ∧ AllLt _ rest)
          exact post _ _ _ _ _ _ _ [.str r _] _ _ _ ivs _ _ _ rfl (by assumption) hI (by assumption) (by omega) (.one (.str _ _)) (by assumption) (by assumption) m1 m2 m3 m4 (lt_of_allLt m5)
  | some ks =>
    obtain ⟨Kd, kvs, nk, rfl, hKm, hks, hkl⟩ := hK
    obtain ⟨B, F, X, T, hf, hke⟩ := H
    refine' code_def (A := At none dp un gd env outer) (env := env) (outer := outer) B F X N T rfl hf hke ?k6 ?k7 ?hroom ?k9 ?kB ?_ ?c2 ?c3 ?c4 ?c5
    case k6 => k_dflt k_is
    case k7 => k_dflt k_is
    case hroom => k_room
    case k9 => exact BindsTo.of_eq rfl
    case c5 => decide
    case kB => exact locs rfl
    case c2 => exact rfl
    case c3 => exact rfl
    case c4 => exact rfl
    intro g' L' h' FG' F' N' B' X' T'
    dsimp only
    k_fold
    k_steps
    · exact post _ _ _ _ _ _ _ _ _ _ _ _ _ _ _ (by assumption) (by assumption) (by assumption) (by assumption) (by assumption) (by assumption) (by assumption) (by assumption) (by assumption) (by assumption) (by assumption) (by assumption) (by assumption)
    · exact postR _ _ _ _ _ _ _ _ _ _ _ _ _ (by assumption) (by assumption) (by assumption) (by assumption) (by assumption) (by assumption) FG' (by assumption) (by assumption)
end
theorem off_Gn0 : True := by
  w_top off
  trivial
section
variable {w : World} {hd : Option Value} {dp un : Nat} {gd : Option (List Code)} {env : Env} {outer : List Env} {A₀ : Around} {base h₀ : Heap} {L : Addr} {m : Str → Option Value}
    {p : Program} {loose : List Str} {mean : ExcName → Option Value} {mg mb : Str → Option Value} {s : Shared} {R : Result → Shared → Prop}
    {rest : List (Addr × Obj)}
/-- the end of a for's turn -/
def ForEnd (Again : Shared → Prop) (Q : Flow → Shared → Prop) (f : Flow) (s : Shared) : Prop :=
  match f with
  | .next => Stop (Again s)
  | .cont => Stop (Again s)
  | .brk => Q .next s
  | .ret v => Q (.ret v) s
/-- a for over a list, by what holds of the heap between the turns -/
theorem for_list {prog : Program} {w : World} {A : Around} {E : Value → Shared → Prop} {s : Shared} {env : Env} {target : PySem.Expr} {body : List Stmt} {Q : Flow → Shared → Prop} {ax : Nat} {vs : List Value}
    (I : Nat → Nat → Obj → Heap → Prop) (hh : A.handled = none) (hl : s.heap.IsList ax vs.toArray) (hE : PassesOwn (model prog w) A env E)
    (start : ∀ o, o.cls = .type "list_iterator" → o.isFreed = false → I s.heap.objs.size 0 o (s.heap.push o))
    (src : ∀ it k o h, I it k o h → h.get? it = some o ∧ h.IsList ax vs.toArray)
    (step : ∀ it k o o' h h', I it k o h → Heap.SameBut it h h' → h'.get? it = some o' → o'.cls = .type "list_iterator" → I it k o' h')
    (turn : ∀ it k o v h tk, I it k o h → vs[k]? = some v → o.cls = .type "list_iterator" → wpAny (model prog w) A (assign target env v) (fun _ s₂ => wpAny (model prog w) A (execs body env)
      (ForEnd (fun s₃ => ∃ h' tk', s₃ = { s with heap := h', toks := tk' } ∧ I it (k + 1) o h') Q) E s₂) E { s with heap := h, toks := tk })
    (fin : ∀ it o h h' tk, I it vs.length o h → Heap.ExtBut it h h' → Q .next { s with heap := h', toks := tk })
    (ht : ∀ it v, letOwnedTupleGo target it v = pure () := by intro _ _; rfl) :
    wpAny (model prog w) A (pyIter (.ref ax)) (fun it s₂ => codeAny (model prog w) A (.forLoop target it body [] env) (fun r s' => match r with | .ok f => Q f s' | .error e => cameBackBy (model prog w) A env E e s') s₂) E s := by
  refine wpAny_pyIter_list hl ?_
  refine codeAny_forLoop (fun n s₁ => ∃ k o h tk, n = vs.length - k ∧ k ≤ vs.length ∧ s₁ = { s with heap := h, toks := tk } ∧ I s.heap.objs.size k o h ∧ o.cls = .type "list_iterator" ∧ o.data = .fields #[.ref ax, .int k 0]) ?_ vs.length
    ⟨0, _, _, s.toks, by omega, by omega, rfl, start _ rfl rfl, rfl, rfl⟩ (ht _)
  rintro n _ ⟨k, o, h, tk, hn, hk, rfl, hI, hc, hd⟩
  obtain ⟨ho, hls⟩ := src _ _ _ _ hI
  by_cases c : k < vs.length
  · have hv : vs[k]? = some vs[k] := List.getElem?_eq_getElem c
    refine wpAny_pyNext_list_item (items := vs.toArray) (i := k) (x := vs[k]) ⟨o, ho, hc, hd⟩ hls (by simpa using hv) fun h' hit hs => ?_
    obtain ⟨o', ho', hc', hd'⟩ := hit
    have hI' := step _ _ _ _ _ _ hI hs ho' hc'
    refine wpAny_mono (turn _ k o' vs[k] h' tk hI' hv hc') (fun _ s₂ h₂ => wpAny_mono h₂ (fun f s₃ h₃ => ?_) hE) hE
    cases f with
    | next => obtain ⟨h4, tk4, rfl, hI4⟩ := h₃; exact ⟨_, by omega, k + 1, o', h4, tk4, rfl, by omega, rfl, hI4, hc', hd'⟩
    | cont => obtain ⟨h4, tk4, rfl, hI4⟩ := h₃; exact ⟨_, by omega, k + 1, o', h4, tk4, rfl, by omega, rfl, hI4, hc', hd'⟩
    | brk => exact h₃
    | ret v => exact h₃
  · have e : k = vs.length := by omega
    subst e
    refine wpAny_pyNext_list_end (items := vs.toArray) (i := vs.length) hh ⟨o, ho, hc, hd⟩ hls (by simp) fun h' he => ?_
    exact wpAny_execs_nil (fin _ _ _ _ _ hI he)
/-- a call, out of a frame that stands alone, of a def that catches: the caller's frame may have been made ready -/
theorem code_defT {prog : Program} {w : World} {A₀ A : Around} {s : Shared} {base h₀ : Heap} {L : Addr} {m : Str → Option Value} {env : Env} {news : List (Addr × Obj)} {K : Frag} {p : Program} {loose : List Str} {mean : ExcName → Option Value} {mg mb : Str → Option Value}
    {R : Result → Shared → Prop} {name qual : Str} {params : Arguments} {body : List Stmt} {scope : Scope} {dV kV doc pm cdv ct oc : Value} {an od : Option Addr} {osl : Array (Option Value)} {f : Addr} {args : Args} {binds : List (Str × Value)}
    (B : Below A₀ base [] h₀) (F : Fr h₀ L s.heap m) (X₀ : K.In h₀) (N : News h₀ L s.heap news) (T : Top p loose mean mg mb h₀) (hA : A.frames = some [env]) (hf : env.frame = some L) (hke : env.scope.kind = .function)
    (ho : K.lookup f = some ⟨oc, od, .func (fnOf name qual params body scope dV kV doc pm an cdv ct), osl⟩) (hcd : codeIn K cdv qual = true) (hroom : A.depth < recursionLimit)
    (hbind : BindsTo s (fnOf name qual params body scope dV kV doc pm an cdv ct) args binds) (hloc : ∀ y ∈ binds, scope.names.lookup y.1 = some .local)
    (h : ∀ g L' h₁, Fr h₀ L g m → Fr g L' h₁ (fun y => binds.reverse.lookup y) → News g L' h₁ news → Below A base [env] g → K.In g → Top p loose mean mg mb g → KtsDicts ([env].filterMap (·.frame)) g →
      wpAny (model prog w) (A.deeper (envOf qual scope L' f cdv)) (execs body (envOf qual scope L' f cdv))
        (fun fl s' => LeaveS0 ([env].filterMap (·.frame)) h₀ L m g R (match fl with | .ret v => v | _ => .none) s')
        (fun e s' => wpAny (model prog w) (A.deeper (envOf qual scope L' f cdv)) (leaving (envOf qual scope L' f cdv) e) (fun _ s'' => R (.error e) s'') (fun e' s'' => R (.error e') s'') s')
        { s with heap := h₁, toks := s.toks + binds.length })
    (hco : scope.isCoroutine = false) (hgen : scope.isGenerator = false) (hk : scope.kind = .function)
    (hcell : ∀ x ∈ scope.names, x.2 ≠ .cell) : codeAny (model prog w) A (.call (.ref f) args) R s := by
  have hfs : ∀ b, b ∈ [env].filterMap (·.frame) → b = L := fun b hb => by
    simp only [List.filterMap_cons, hf, List.filterMap_nil, List.mem_singleton] at hb
    exact hb
  have X := X₀.keeps F.keep
  obtain ⟨FG, BG, st, _⟩ := groundX (R := R) B F N hA hf hke
  obtain ⟨oL, es, ep, hLg, hLd, hLk, hLf⟩ := FG.ns
  refine codeAny_call_def (fd := fnX name qual params body scope [] dV kV doc pm an cdv ct) (body := body) (binds := binds) hroom (X _ _ ho) rfl (T.nolimit.keeps F.keep) (codeRec_of X hcd) rfl hbind hcell hloc (fun h₁ hns hk₁ => ?_) hco hgen hk
  refine wpAny_mono (h _ s.heap.objs.size h₁ FG ⟨hns, fun b o e => hk₁ b o (of_hideAll _ e), Nat.le_of_eq (hideAll_size _ _)⟩
    (fun p hp => ⟨hk₁ _ _ (N p hp).1, Nat.ne_of_lt (Heap.lt_size (N p hp).1), hideAll_none _ (List.mem_map_of_mem hp)⟩) BG (X₀.keeps st) (T.keeps st) (fun b hb => by
      rw [hfs b hb]; exact ⟨oL, es, ep, hLg, hLd⟩)) (fun fl s' hl => ?_) fun _ _ y => y
  obtain ⟨g', L', m', news', T', F', N', k⟩ := hl
  have nL₀ : h₀.get? L = none := kts_self F
  obtain ⟨sl, hs⟩ := T'.up hLg
  refine k ⟨⟨_, es, ep, F'.keep _ _ hs, hLd, hLk, hLf⟩, fun b o e => F'.keep b o (T'.other b o (st b o e) (fun q => by
    rw [hfs b q, nL₀] at e
    cases e)), F.above⟩ fun p hp => ⟨(N' p hp).1, fun q => ?_, ?_⟩
  · have := (N' p hp).2.2; rw [q, hs] at this; cases this
  · cases q : h₀.get? p.1 with
    | none => rfl
    | some o =>
      obtain ⟨sl', hs'⟩ := T'.up (st _ _ q)
      have := (N' p hp).2.2
      rw [hs'] at this
      cases this
/-- a for over a list of the ledger: between the turns ground, names and ledger may change -/
theorem for_led {prog : Program} {w : World} {A : Around} {E : Value → Shared → Prop} {s : Shared} {env : Env} {target : PySem.Expr} {body : List Stmt} {Q : Flow → Shared → Prop} {ax na L : Nat} {vs : List Value}
    (J : Nat → Heap → (Str → Option Value) → List (Addr × Obj) → Prop) {g : Heap} {M : Str → Option Value} {news : List (Addr × Obj)} (hh : A.handled = none) (F : Fr g L s.heap M) (N : News g L s.heap news) (hm : (ax, listOf vs.toArray na) ∈ news) (hE : PassesOwn (model prog w) A env E)
    (h0 : J 0 g M news)
    (mem : ∀ k g M news, J k g M news → (ax, listOf vs.toArray na) ∈ news)
    (turn : ∀ (it : Nat) o k v g M news h tk, J k g M news → vs[k]? = some v → Fr g L h M → News g L h ((it, o) :: news) → (∀ p ∈ news, p.1 ≠ it) → wpAny (model prog w) A (assign target env v) (fun _ s₂ => wpAny (model prog w) A (execs body env)
      (ForEnd (fun s₃ => ∃ h' tk', s₃ = { s with heap := h', toks := tk' } ∧ ∃ g' M' news', J (k + 1) g' M' news' ∧ Fr g' L h' M' ∧ News g' L h' ((it, o) :: news') ∧ (∀ p ∈ news', p.1 ≠ it)) Q) E s₂) E { s with heap := h, toks := tk })
    (fin : ∀ g M news h tk, J vs.length g M news → Fr g L h M → News g L h news → Q .next { s with heap := h, toks := tk })
    (ht : ∀ it v, letOwnedTupleGo target it v = pure () := by intro _ _; rfl) :
    wpAny (model prog w) A (pyIter (.ref ax)) (fun it s₂ => codeAny (model prog w) A (.forLoop target it body [] env) (fun r s' => match r with | .ok f => Q f s' | .error e => cameBackBy (model prog w) A env E e s') s₂) E s := by
  refine for_list (fun it k o h => ∃ g M news, J k g M news ∧ Fr g L h M ∧ News g L h ((it, o) :: news) ∧ (∀ p ∈ news, p.1 ≠ it)) hh (N.isList hm) hE ?start ?src ?step ?turn ?fin ht
  case start => exact fun o _ hf => ⟨g, M, news, h0, F.push o, News.push F N o hf, N.apart⟩
  case src =>
    rintro it k o h ⟨g, M, news, hJ, F, N, ap⟩
    exact ⟨N.get (.head _), (News.tail' N).isList (mem _ _ _ _ hJ)⟩
  case step =>
    rintro it k o o' h h' ⟨g, M, news, hJ, F, N, ap⟩ hs ho _
    exact ⟨g, M, news, hJ, F.update N (.head _) hs, N.setHead ap hs ho, ap⟩
  case turn =>
    rintro it k o v h tk ⟨g, M, news, hJ, F, N, ap⟩ hv _
    exact turn it o k v g M news h tk hJ hv F N ap
  case fin =>
    rintro it o h h' tk ⟨g, M, news, hJ, F, N, ap⟩ he
    have hL : it ≠ L := N.ne (.head _)
    have hn : ∀ b x, g.get? b = some x → b ≠ it := fun b x e q => by rw [q, N.fresh (.head _)] at e; cases e
    exact fin g M news h' tk hJ ⟨F.ns.extBut he hL.symm, fun b x e => he b x (hn b x e) (F.keep b x e), F.above⟩ fun p hp => ⟨he _ _ (ap p hp) (N p (.tail _ hp)).1, (N p (.tail _ hp)).2⟩
/-- the same, the goal's continuation behind variables -/
theorem for_ledA {prog : Program} {w : World} {A : Around} {E : Value → Shared → Prop} {s : Shared} {env : Env} {target : PySem.Expr} {body : List Stmt} {Q : Flow → Shared → Prop} {ax na L : Nat} {vs : List Value}
    (J : Nat → Heap → (Str → Option Value) → List (Addr × Obj) → Prop) {g : Heap} {M : Str → Option Value} {news : List (Addr × Obj)} (hh : A.handled = none) (F : Fr g L s.heap M) (N : News g L s.heap news) (hm : (ax, listOf vs.toArray na) ∈ news) (hE : PassesOwn (model prog w) A env E)
    (h0 : J 0 g M news)
    (mem : ∀ k g M news, J k g M news → (ax, listOf vs.toArray na) ∈ news)
    (turn : ∀ (it : Nat) o k v g M news h tk (Again : Shared → Prop) (Q' : Flow → Shared → Prop), (∀ h' tk' g' M' news', J (k + 1) g' M' news' → Fr g' L h' M' → News g' L h' ((it, o) :: news') → (∀ p ∈ news', p.1 ≠ it) → Again { s with heap := h', toks := tk' }) → (∀ f s', Q f s' → Q' f s') →
      J k g M news → vs[k]? = some v → Fr g L h M → News g L h ((it, o) :: news) → (∀ p ∈ news, p.1 ≠ it) → wpAny (model prog w) A (assign target env v) (fun _ s₂ => wpAny (model prog w) A (execs body env) (ForEnd Again Q') E s₂) E { s with heap := h, toks := tk })
    (fin : ∀ g M news h tk, J vs.length g M news → Fr g L h M → News g L h news → Q .next { s with heap := h, toks := tk })
    (ht : ∀ it v, letOwnedTupleGo target it v = pure () := by intro _ _; rfl) :
    wpAny (model prog w) A (pyIter (.ref ax)) (fun it s₂ => codeAny (model prog w) A (.forLoop target it body [] env) (fun r s' => match r with | .ok f => Q f s' | .error e => cameBackBy (model prog w) A env E e s') s₂) E s :=
  for_led J hh F N hm hE h0 mem (fun it o k v g M news h tk hJ hv F N ap => turn it o k v g M news h tk _ Q (fun h' tk' g' M' news' a b c d => ⟨h', tk', rfl, g', M', news', a, b, c, d⟩) (fun _ _ x => x) hJ hv F N ap) fin ht
end
theorem off_Pl0 : True := by
  w_top off
  trivial
section
variable {w : World} {hd : Option Value} {dp un : Nat} {gd : Option (List Code)} {env : Env} {outer : List Env} {A₀ : Around} {base h₀ : Heap} {L : Addr} {m : Str → Option Value}
    {p : Program} {loose : List Str} {mean : ExcName → Option Value} {mg mb : Str → Option Value} {s : Shared} {R : Result → Shared → Prop}
    {rest : List (Addr × Obj)}
theorem prompted_len (outs : List Str) (R : Str) : (prompted outs R).length ≤ outs.length + 1 := by
  unfold prompted
  split
  · simp
  · simp
/-- what askV keeps: no row is lost but those that are taken; the rows written are bounded -/
theorem askV_facts {g : Str → Option (List Dat)} {po : Option Str} {b : Bool} : ∀ (ins outs : List Str) (row : Str),
    (∃ k, (askV g po b outs row ins).2.2.2 = ins.drop k) ∧ (askV g po b outs row ins).2.1.length + 2 * (askV g po b outs row ins).2.2.2.length ≤ outs.length + 2 * ins.length ∧
    ((askV g po b outs row ins).1 = none → (askV g po b outs row ins).2.2.2 = []) ∧ (∀ ds, (askV g po b outs row ins).1 = some ds → (askV g po b outs row ins).2.2.1 = Str.ofString "") := by
  intro ins
  induction ins with
  | nil =>
    intro outs row
    unfold askV
    exact ⟨⟨0, rfl⟩, Nat.le_refl _, fun _ => rfl, fun _ h => nomatch h⟩
  | cons r ins ih =>
    intro outs row
    unfold askV
    have hp := prompted_len outs (promptRow row po b)
    cases e : g r with
    | some ds =>
      dsimp only
      refine ⟨⟨1, rfl⟩, ?_, fun h => (nomatch h), fun _ _ => rfl⟩
      simp only [List.length_cons]
      omega
    | none =>
      dsimp only
      obtain ⟨⟨k, h1⟩, h2, h3, h4⟩ := ih (prompted outs (promptRow row po b) ++ [againRow]) (Str.ofString "")
      refine ⟨⟨k + 1, h1⟩, ?_, h3, h4⟩
      simp only [List.length_append, List.length_cons, List.length_nil] at h2 ⊢
      omega
theorem asked_facts (o : Ord) (outs : List Str) (row : Str) (ins : List Str) :
    (∃ k, (asked o outs row ins).2.2.2 = ins.drop k) ∧ (asked o outs row ins).2.1.length + 2 * (asked o outs row ins).2.2.2.length ≤ outs.length + 2 * ins.length ∧
    ((asked o outs row ins).1 = none → (asked o outs row ins).2.2.2 = []) ∧ (∀ ds, (asked o outs row ins).1 = some ds → (asked o outs row ins).2.2.1 = Str.ofString "") := by
  obtain ⟨ks, po, b⟩ := o
  unfold asked
  cases ks with
  | some ks => exact askV_facts ins outs row
  | none =>
    cases ins with
    | nil => exact ⟨⟨0, rfl⟩, Nat.le_refl _, fun _ => rfl, fun _ h => nomatch h⟩
    | cons r ins =>
      have hp := prompted_len outs (promptRow row po false)
      dsimp only
      refine ⟨⟨1, rfl⟩, ?_, fun h => (nomatch h), fun _ _ => rfl⟩
      simp only [List.length_cons]
      omega
theorem asked_nil (o : Ord) (outs : List Str) (row : Str) : asked o outs row [] = (none, outs, row, []) := by
  obtain ⟨ks, po, b⟩ := o
  unfold asked
  cases ks with
  | some ks => unfold askV; rfl
  | none => rfl
/-- one order, the rows coming lot by lot: the answer and what is then left, or the end of the rows -/
inductive Served where
  | yes (ds : List Dat) (at_ : Nat) (lots : List (List Str)) (outs : List Str) (row : Str) (ins : List Str)
  | no (at_ : Nat) (outs : List Str) (row : Str) (ins : List Str)
def serve (a : List Str → Str → List Str → Option (List Dat) × List Str × Str × List Str) : List (List Str) → Nat → List Str → Str → List Str → Served
  | [], n, outs, row, ins => match a outs row ins with
    | (some ds, outs', row', ins') => .yes ds n [] outs' row' ins'
    | (none, outs', row', ins') => .no n outs' row' ins'
  | l :: lots, n, outs, row, ins => match a outs row ins with
    | (some ds, outs', row', ins') => .yes ds n (l :: lots) outs' row' ins'
    | (none, outs', row', ins') => serve a lots (n + 1) outs' row' (ins' ++ l)
/-- what _law_gone gives: the answers with their places; the state -/
def gone : List Ord → List (List Str) → Nat → List (List Dat × Nat) → List Str → Str → List Str → List (List Dat × Nat) × List Str × Str × List Str
  | [], lots, _, found, outs, row, ins => (found, outs, row, ins ++ lots.flatten)
  | o :: os, lots, n, found, outs, row, ins => match serve (asked o) lots n outs row ins with
    | .yes ds n' lots' outs' row' ins' => gone os lots' n' (found ++ [(ds, n')]) outs' row' ins'
    | .no _ outs' row' ins' => (found, outs', row', ins')
theorem askV_append {g : Str → Option (List Dat)} {po : Option Str} {b : Bool} {more : List Str} : ∀ (ins outs : List Str) (row : Str),
    askV g po b outs row (ins ++ more) = match askV g po b outs row ins with
      | (some ds, outs', row', ins') => (some ds, outs', row', ins' ++ more)
      | (none, outs', row', _) => askV g po b outs' row' more := by
  intro ins
  induction ins with
  | nil => intro outs row; rw [askV]; rfl
  | cons r ins ih =>
    intro outs row
    rw [List.cons_append, askV, askV]
    cases g r with
    | some ds => rfl
    | none => exact ih _ _
theorem asked_append (o : Ord) (more ins outs : List Str) (row : Str) :
    asked o outs row (ins ++ more) = match asked o outs row ins with
      | (some ds, outs', row', ins') => (some ds, outs', row', ins' ++ more)
      | (none, outs', row', _) => asked o outs' row' more := by
  obtain ⟨ks, po, b⟩ := o
  unfold asked
  cases ks with
  | some ks => exact askV_append ins outs row
  | none => cases ins <;> rfl
theorem serve_whole (o : Ord) : ∀ (lots : List (List Str)) (n : Nat) (outs : List Str) (row : Str) (ins : List Str),
    asked o outs row (ins ++ lots.flatten) = match serve (asked o) lots n outs row ins with
      | .yes ds _ lots' outs' row' ins' => (some ds, outs', row', ins' ++ lots'.flatten)
      | .no _ outs' row' ins' => (none, outs', row', ins') := by
  intro lots
  induction lots with
  | nil =>
    intro n outs row ins
    unfold serve
    simp only [List.flatten_nil, List.append_nil]
    rcases asked o outs row ins with ⟨(_ | ds), outs', row', ins'⟩
    · rfl
    · simp
  | cons l lots ih =>
    intro n outs row ins
    rw [serve, asked_append]
    have hf := (asked_facts o outs row ins).2.2.1
    revert hf
    rcases asked o outs row ins with ⟨(_ | ds), outs', row', ins'⟩
    · intro hf
      have e : ins' = [] := hf rfl
      subst e
      dsimp only
      rw [List.flatten_cons, ← ih (n + 1)]
      rfl
    · intro _; rfl
theorem serve_one (o : Ord) (n : Nat) (outs : List Str) (row : Str) (ins : List Str) : serve (asked o) [] n outs row ins = match asked o outs row ins with
      | (some ds, outs', row', ins') => .yes ds n [] outs' row' ins'
      | (none, outs', row', ins') => .no n outs' row' ins' := rfl
/-- however the rows come, what is given and what is left are the same -/
theorem gone_same : ∀ (os : List Ord) (lots : List (List Str)) (n n' : Nat) (found found' : List (List Dat × Nat)) (outs : List Str) (row : Str) (ins : List Str), found.map (·.1) = found'.map (·.1) →
    (gone os lots n found outs row ins).1.map (·.1) = (gone os [] n' found' outs row (ins ++ lots.flatten)).1.map (·.1) ∧
    (gone os lots n found outs row ins).2 = (gone os [] n' found' outs row (ins ++ lots.flatten)).2 := by
  intro os
  induction os with
  | nil =>
    intro lots n n' found found' outs row ins h
    unfold gone
    simp [h]
  | cons o os ih =>
    intro lots n n' found found' outs row ins h
    rw [gone, gone, serve_one]
    have hw := serve_whole o lots n outs row ins
    rw [hw]
    cases serve (asked o) lots n outs row ins with
    | no n1 outs1 row1 ins1 => exact ⟨h, rfl⟩
    | yes ds n1 lots1 outs1 row1 ins1 =>
      dsimp only
      exact ih lots1 n1 n' _ _ outs1 row1 ins1 (by simp [h])
end
theorem off_Pl1 : True := by
  w_top off
  trivial
section
variable {w : World} {hd : Option Value} {dp un : Nat} {gd : Option (List Code)} {env : Env} {outer : List Env} {A₀ : Around} {base h₀ : Heap} {L : Addr} {m : Str → Option Value}
    {p : Program} {loose : List Str} {mean : ExcName → Option Value} {mg mb : Str → Option Value} {s : Shared} {R : Result → Shared → Prop}
    {rest : List (Addr × Obj)}
/-- the answer is what the row alone gives, in a new world -/
def Alone (rows : List Str) (o : Ord) (f : List Dat × Nat) : Prop :=
  1 ≤ f.2 ∧ ∃ r, rows[f.2 - 1]? = some r ∧ ∃ outs', asked o [] (Str.ofString "") [r] = (some f.1, outs', Str.ofString "", []) ∧ outs'.length ≤ 1 ∧ (o.ks = none → f.1 = [Dat.str r])
inductive Paired (rows : List Str) : List Ord → List (List Dat × Nat) → Prop where
  | nil {os : List Ord} : Paired rows os []
  | cons {o : Ord} {os : List Ord} {f : List Dat × Nat} {fs : List (List Dat × Nat)} : Alone rows o f → Paired rows os fs → Paired rows (o :: os) (f :: fs)
theorem asked_single {o : Ord} {outs outs' ins' : List Str} {row row' r : Str} {ds : List Dat} (h : asked o outs row [r] = (some ds, outs', row', ins')) :
    ins' = [] ∧ ∃ outs1, asked o [] (Str.ofString "") [r] = (some ds, outs1, Str.ofString "", []) ∧ outs1.length ≤ 1 ∧ (o.ks = none → ds = [Dat.str r]) := by
  obtain ⟨ks, po, b⟩ := o
  unfold asked at h ⊢
  cases ks with
  | none =>
    dsimp only at h ⊢
    cases h
    exact ⟨rfl, _, rfl, prompted_len _ _, fun _ => rfl⟩
  | some ks =>
    dsimp only at h ⊢
    rw [askV] at h ⊢
    cases e : fit ks r with
    | none => rw [e] at h; dsimp only at h; rw [askV] at h; cases h
    | some d =>
      rw [e] at h
      cases h
      exact ⟨rfl, _, rfl, prompted_len _ _, fun h => nomatch h⟩
theorem serve_single (o : Ord) (rows : List Str) : ∀ (l : List Str) (n : Nat) (r : Str) (outs : List Str) (row : Str) {ds : List Dat} {n' : Nat} {lots' : List (List Str)} {outs' : List Str} {row' : Str} {ins' : List Str},
    1 ≤ n → rows[n - 1]? = some r → rows.drop n = l → serve (asked o) (l.map fun x => [x]) n outs row [r] = .yes ds n' lots' outs' row' ins' →
    ins' = [] ∧ lots' = (rows.drop n').map (fun x => [x]) ∧ Alone rows o (ds, n') := by
  intro l
  induction l with
  | nil =>
    intro n r outs row ds n' lots' outs' row' ins' hn hr hl h
    rw [List.map_nil, serve_one] at h
    rcases e : asked o outs row [r] with ⟨(_ | d), o1, r1, i1⟩
    · rw [e] at h; cases h
    · rw [e] at h
      cases h
      obtain ⟨h1, h2⟩ := asked_single e
      exact ⟨h1, by rw [hl]; rfl, hn, r, hr, h2⟩
  | cons x l ih =>
    intro n r outs row ds n' lots' outs' row' ins' hn hr hl h
    rw [List.map_cons, serve] at h
    have hx : rows[n]? = some x := by
      have := congrArg (fun l => l[0]?) hl
      simpa using this
    have hl' : rows.drop (n + 1) = l := by
      have := congrArg List.tail hl
      simpa using this
    rcases e : asked o outs row [r] with ⟨(_ | d), o1, r1, i1⟩
    · have hf := (asked_facts o outs row [r]).2.2.1
      rw [e] at h hf
      have e1 : i1 = [] := hf rfl
      subst e1
      dsimp only at h
      exact ih (n + 1) x o1 r1 (by omega) (by simpa using hx) hl' h
    · rw [e] at h
      cases h
      obtain ⟨h1, h2⟩ := asked_single e
      exact ⟨h1, by rw [hl]; rfl, hn, r, hr, h2⟩
theorem serve_start (o : Ord) (rows : List Str) {n : Nat} {outs : List Str} {row : Str} {ds : List Dat} {n' : Nat} {lots' : List (List Str)} {outs' : List Str} {row' : Str} {ins' : List Str}
    (h : serve (asked o) ((rows.drop n).map fun x => [x]) n outs row [] = .yes ds n' lots' outs' row' ins') :
    ins' = [] ∧ lots' = (rows.drop n').map (fun x => [x]) ∧ Alone rows o (ds, n') := by
  cases e : rows.drop n with
  | nil =>
    rw [e, List.map_nil, serve_one, asked_nil] at h
    cases h
  | cons x l =>
    rw [e, List.map_cons, serve, asked_nil] at h
    dsimp only at h
    have hx : rows[n]? = some x := by
      have := congrArg (fun l => l[0]?) e
      simpa using this
    have hl' : rows.drop (n + 1) = l := by
      have := congrArg List.tail e
      simpa using this
    exact serve_single o rows l (n + 1) x outs row (by omega) (by simpa using hx) hl' h
theorem gone_singly (rows : List Str) : ∀ (os : List Ord) (n : Nat) (found : List (List Dat × Nat)) (outs : List Str) (row : Str),
    ∃ new, (gone os ((rows.drop n).map fun x => [x]) n found outs row []).1 = found ++ new ∧ Paired rows os new := by
  intro os
  induction os with
  | nil => intro n found outs row; exact ⟨[], by simp [gone], .nil⟩
  | cons o os ih =>
    intro n found outs row
    rw [gone]
    cases e : serve (asked o) ((rows.drop n).map fun x => [x]) n outs row [] with
    | no n1 outs1 row1 ins1 => exact ⟨[], by simp, .nil⟩
    | yes ds n1 lots1 outs1 row1 ins1 =>
      obtain ⟨rfl, rfl, ha⟩ := serve_start o rows e
      dsimp only
      obtain ⟨new, h1, h2⟩ := ih n1 (found ++ [(ds, n1)]) outs1 row1
      exact ⟨(ds, n1) :: new, by rw [h1]; simp, .cons ha h2⟩
end
theorem off_Pl2 : True := by
  w_top off
  trivial
section
variable {w : World} {hd : Option Value} {dp un : Nat} {gd : Option (List Code)} {env : Env} {outer : List Env} {A₀ : Around} {base h₀ : Heap} {L : Addr} {m : Str → Option Value}
    {p : Program} {loose : List Str} {mean : ExcName → Option Value} {mg mb : Str → Option Value} {s : Shared} {R : Result → Shared → Prop}
    {rest : List (Addr × Obj)}
theorem okS_nil : PyData.strOk (Str.ofString "") = true := by decide +kernel
theorem okS_iff {x : Str} : PyData.strOk x = true ↔ ∀ c ∈ x.cps, c < 0x110000 := by
  unfold PyData.strOk
  rw [Array.all_eq_true_iff_forall_mem]
  simp
theorem okS_sub {x y : Str} (h : ∀ c ∈ y.cps, c ∈ x.cps) (hx : PyData.strOk x = true) : PyData.strOk y = true := okS_iff.mpr fun c hc => okS_iff.mp hx c (h c hc)
theorem okS_append {x y : Str} (hx : PyData.strOk x = true) (hy : PyData.strOk y = true) : PyData.strOk (x ++ y) = true := okS_iff.mpr fun c hc => by
  have hc : c ∈ x.cps ++ y.cps := hc
  rcases Array.mem_append.mp hc with h | h
  · exact okS_iff.mp hx c h
  · exact okS_iff.mp hy c h
theorem okS_slice {x : Str} {l u : Option Int} (hx : PyData.strOk x = true) : PyData.strOk (Txt.slice x l u) = true := by
  unfold Txt.slice
  split
  · exact hx
  · refine okS_sub (fun c hc => ?_) hx
    have hc := List.mem_toArray.mp hc
    obtain ⟨i, _, hi⟩ := List.mem_filterMap.mp hc
    exact Array.mem_of_getElem? hi
theorem okS_rstrip {x y : Str} (hx : PyData.strOk x = true) : PyData.strOk (Txt.rstripChars x y) = true := by
  unfold Txt.rstripChars Txt.stripBy
  split
  · exact hx
  · refine okS_sub (fun c hc => ?_) hx
    unfold PySem.stripped Builtin.Str.strSub at hc
    have hc : c ∈ x.cps.extract _ _ := hc
    obtain ⟨i, hi, e⟩ := Array.mem_iff_getElem.mp hc
    rw [Array.getElem_extract] at e
    rw [← e]
    exact Array.getElem_mem _
theorem okS_quoted {x : Str} {i : Int} (hx : PyData.strOk x = true) : PyData.strOk (quoted x i).1 = true := by
  unfold quoted
  split <;> exact okS_slice hx
theorem okS_field {x : Str} {i : Int} (hx : PyData.strOk x = true) : ∀ f, (fieldAt x i).1 = some f → PyData.strOk f = true := by
  intro f h
  unfold fieldAt at h
  split at h
  · dsimp only at h
    split at h
    · cases h; exact okS_quoted hx
    · cases h
  · split at h
    · cases h; exact okS_rstrip (okS_slice hx)
    · cases h; exact okS_rstrip (okS_slice hx)
theorem okS_toldF {g : Int → Option Str × Int × Bool} {len : Int} (hg : ∀ i f, (g i).1 = some f → PyData.strOk f = true) : ∀ (k : Nat) (i : Int) (acc : List (Str × Bool)), (∀ f ∈ acc, PyData.strOk f.1 = true) →
    ∀ fs, toldF g len k i acc = some fs → ∀ f ∈ fs, PyData.strOk f.1 = true := by
  intro k
  induction k with
  | zero => intro i acc ha fs h; unfold toldF at h; cases h; exact ha
  | succ k ih =>
    intro i acc ha fs h
    unfold toldF at h
    have hgi := hg i
    revert h hgi
    cases (g i).1 with
    | none => intro h; cases h
    | some f =>
      intro h hgi
      dsimp only at h
      have hn : ∀ y ∈ acc ++ [(f, (g i).2.2)], PyData.strOk y.1 = true := by
        intro y hy
        rcases List.mem_append.mp hy with hy | hy
        · exact ha y hy
        · rw [List.mem_singleton.mp hy]; exact hgi f rfl
      by_cases c : (g i).2.1 < len
      · rw [if_pos c] at h; exact ih _ _ hn fs h
      · rw [if_neg c] at h; cases h; exact hn
theorem okS_value {f k : Str} {d : Dat} (hf : PyData.strOk f = true) (h : valueOf f k = some d) : kqdOk 0 d = true := by
  unfold valueOf at h
  split at h
  · cases h; exact hf
  · split at h
    · cases h; rfl
    · cases e : lawNumber f with
      | none => rw [e] at h; cases h
      | some i => rw [e] at h; cases h; rfl
theorem okS_fitAll : ∀ (fs : List (Str × Bool)) (ks : List Str), (∀ f ∈ fs, PyData.strOk f.1 = true) → ∀ ds, fitAll fs ks = some ds → ∀ d ∈ ds, kqdOk 0 d = true
  | [], [], _, ds, h => by unfold fitAll at h; cases h; exact fun _ h => nomatch h
  | [], _ :: _, _, ds, h => by unfold fitAll at h; cases h
  | _ :: _, [], _, ds, h => by unfold fitAll at h; cases h
  | f :: fs, k :: ks, hf, ds, h => by
    unfold fitAll at h
    cases e : fitOne f k with
    | none => rw [e] at h; cases h
    | some d =>
      rw [e] at h
      dsimp only at h
      cases e2 : fitAll fs ks with
      | none => rw [e2] at h; cases h
      | some es =>
        rw [e2] at h
        cases h
        intro y hy
        rcases List.mem_cons.mp hy with rfl | hy
        · unfold fitOne at e
          split at e
          · cases e
          · exact okS_value (hf f (.head _)) e
        · exact okS_fitAll fs ks (fun f hm => hf f (.tail _ hm)) es e2 y hy
theorem okS_fit {ks : List Str} {x : Str} (hx : PyData.strOk x = true) : ∀ ds, fit ks x = some ds → ∀ d ∈ ds, kqdOk 0 d = true := by
  intro ds h
  unfold fit at h
  cases e : toldFields x with
  | none => rw [e] at h; cases h
  | some fs =>
    rw [e] at h
    exact okS_fitAll fs ks (okS_toldF (fun i f => okS_field hx f) _ _ [] (fun _ h => nomatch h) fs e) ds h
theorem okS_prompt {row : Str} {po : Option Str} {b : Bool} (h1 : PyData.strOk row = true) (h2 : ∀ y, po = some y → PyData.strOk y = true) : PyData.strOk (promptRow row po b) = true := by
  unfold promptRow
  refine okS_append (okS_append h1 ?_) ?_
  · cases po with
    | none => decide +kernel
    | some y => exact h2 y rfl
  · cases b <;> decide +kernel
theorem okS_prompted {outs : List Str} {R : Str} (h1 : ∀ x ∈ outs, PyData.strOk x = true) (h2 : PyData.strOk R = true) : ∀ x ∈ prompted outs R, PyData.strOk x = true := by
  unfold prompted
  split
  · intro x hx
    rcases List.mem_append.mp hx with hx | hx
    · exact h1 x hx
    · rw [List.mem_singleton.mp hx]; exact h2
  · exact h1
/-- what was told is well made -/
structure OkA (r : Option (List Dat) × List Str × Str × List Str) : Prop where
  a : ∀ ds, r.1 = some ds → ∀ d ∈ ds, kqdOk 0 d = true
  o : ∀ x ∈ r.2.1, PyData.strOk x = true
  w : PyData.strOk r.2.2.1 = true
theorem okS_askV {g : Str → Option (List Dat)} {po : Option Str} {b : Bool} (hp : ∀ y, po = some y → PyData.strOk y = true) : ∀ (ins outs : List Str) (row : Str), (∀ r ∈ ins, PyData.strOk r = true ∧ ∀ ds, g r = some ds → ∀ d ∈ ds, kqdOk 0 d = true) →
    (∀ x ∈ outs, PyData.strOk x = true) → PyData.strOk row = true → OkA (askV g po b outs row ins) := by
  intro ins
  induction ins with
  | nil => intro outs row _ ho hr; unfold askV; exact ⟨fun _ h => (nomatch h), ho, hr⟩
  | cons r ins ih =>
    intro outs row hi ho hr
    unfold askV
    have h1 := okS_prompted ho (okS_prompt (b := b) hr hp)
    have hg := (hi r (.head _)).2
    revert hg
    cases g r with
    | some ds => intro hg; exact ⟨fun ds' e => by cases e; exact hg ds rfl, h1, okS_nil⟩
    | none =>
      intro _
      refine ih _ _ (fun r h => hi r (.tail _ h)) (fun x hx => ?_) okS_nil
      rcases List.mem_append.mp hx with hx | hx
      · exact h1 x hx
      · rw [List.mem_singleton.mp hx]; unfold againRow; decide +kernel
theorem okS_asked {o : Ord} {outs : List Str} {row : Str} {ins : List Str} (hp : ∀ y, o.po = some y → PyData.strOk y = true) (hi : ∀ r ∈ ins, PyData.strOk r = true) (ho : ∀ x ∈ outs, PyData.strOk x = true) (hr : PyData.strOk row = true) :
    OkA (asked o outs row ins) := by
  obtain ⟨ks, po, b⟩ := o
  unfold asked
  cases ks with
  | some ks => exact okS_askV hp ins outs row (fun r h => ⟨hi r h, okS_fit (hi r h)⟩) ho hr
  | none =>
    cases ins with
    | nil => exact ⟨fun _ h => (nomatch h), ho, hr⟩
    | cons r ins => exact ⟨fun ds e => by cases e; intro d hd; rw [List.mem_singleton.mp hd]; exact hi r (.head _), okS_prompted ho (okS_prompt hr hp), okS_nil⟩
theorem KindsIn.mono {l l' : List (Addr × Obj)} {kv : Value} {o : Option (List Str)} (h : KindsIn l kv o) (sub : ∀ p ∈ l, p ∈ l') : KindsIn l' kv o := by
  cases o with
  | none => exact h
  | some ks => obtain ⟨Kd, kvs, nk, e, hm, h1, h2⟩ := h; exact ⟨Kd, kvs, nk, e, sub _ hm, h1, h2⟩
end
theorem off_Eq0 : True := by
  w_top off
  trivial
section
variable {w : World} {hd : Option Value} {dp un : Nat} {gd : Option (List Code)} {env : Env} {outer : List Env} {A₀ : Around} {base h₀ : Heap} {L : Addr} {m : Str → Option Value}
    {p : Program} {loose : List Str} {mean : ExcName → Option Value} {mg mb : Str → Option Value} {s : Shared} {R : Result → Shared → Prop}
    {rest : List (Addr × Obj)}
section
variable {prog : Program} {A : Around} {E : Value → Shared → Prop} {news n₁ n₂ : List (Addr × Obj)} {v1 v2 : Value} {d e : Dat} {Q : Value → Shared → Prop}
theorem dat_eq (N : News h₀ L s.heap news) (h1 : DatIn n₁ v1 d) (s1 : ∀ p ∈ n₁, p ∈ news) (h2 : DatIn n₂ v2 e) (s2 : ∀ p ∈ n₂, p ∈ news) (o1 : kqdOk 9 d = true) (o2 : kqdOk 9 e = true) (hu : A.units + 64 < cLine)
    (h : ∀ r : Bool, (r = true ↔ d = e) → Q (.bool r) s) : wpAny (model prog w) A (compareOp .Eq v1 v2) Q E s := by
  obtain ⟨as, ra⟩ := kqd_in N 9 (h1.mono s1) o1
  obtain ⟨bs, rb⟩ := kqd_in N 9 (h2.mono s2) o2
  have la := kqd_lay 9 d o1
  have lb := kqd_lay 9 e o2
  have q := kqd_eqv 9 d e 9 o1 o2
  refine eq_dataH ra rb ?_ ?_ hu (h _ q)
  · unfold SeqAt.shaped; rw [la.1, Bool.true_and]; exact decide_eq_true (Nat.le_trans la.2 (by decide))
  · unfold SeqAt.shaped; rw [lb.1, Bool.true_and]; exact decide_eq_true (Nat.le_trans lb.2 (by decide))
theorem dat_ne (N : News h₀ L s.heap news) (h1 : DatIn n₁ v1 d) (s1 : ∀ p ∈ n₁, p ∈ news) (h2 : DatIn n₂ v2 e) (s2 : ∀ p ∈ n₂, p ∈ news) (o1 : kqdOk 9 d = true) (o2 : kqdOk 9 e = true) (hu : A.units + 64 < cLine)
    (h : ∀ r : Bool, (r = true ↔ d ≠ e) → Q (.bool r) s) : wpAny (model prog w) A (compareOp .NotEq v1 v2) Q E s := by
  obtain ⟨as, ra⟩ := kqd_in N 9 (h1.mono s1) o1
  obtain ⟨bs, rb⟩ := kqd_in N 9 (h2.mono s2) o2
  have la := kqd_lay 9 d o1
  have lb := kqd_lay 9 e o2
  have q := kqd_eqv 9 d e 9 o1 o2
  refine ne_dataH ra rb ?_ ?_ hu (h _ (by rw [Bool.not_eq_true', ← Bool.not_eq_true, q]))
  · unfold SeqAt.shaped; rw [la.1, Bool.true_and]; exact decide_eq_true (Nat.le_trans la.2 (by decide))
  · unfold SeqAt.shaped; rw [lb.1, Bool.true_and]; exact decide_eq_true (Nat.le_trans lb.2 (by decide))
end
theorem okD_str {n : Nat} {x : Str} (h : PyData.strOk x = true) : kqdOk n (.str x) = true := by cases n <;> exact h
theorem okD_int {n : Nat} {i : Int} : kqdOk n (.int i) = true := by cases n <;> rfl
theorem okD_list {n : Nat} {ds : List Dat} (h : ∀ d ∈ ds, kqdOk n d = true) : kqdOk (n + 1) (.list ds) = true := by
  unfold kqdOk; exact List.all_eq_true.mpr h
theorem okD_tuple {n : Nat} {ds : List Dat} (h : ∀ d ∈ ds, kqdOk n d = true) : kqdOk (n + 1) (.tuple ds) = true := by
  unfold kqdOk; exact List.all_eq_true.mpr h
theorem okD_strs {n : Nat} {ss : List Str} (h : ∀ x ∈ ss, PyData.strOk x = true) : kqdOk (n + 1) (.list (ss.map .str)) = true := okD_list fun d hd => by
  obtain ⟨x, hx, rfl⟩ := List.mem_map.mp hd
  exact okD_str (h x hx)
theorem okD_up {n : Nat} {d : Dat} (h : kqdOk 0 d = true) : kqdOk n d = true := by
  cases d <;> cases n <;> first | exact h | (simp [kqdOk] at h ⊢; try exact h)
theorem stop_any {P : Prop} (h : Stop P) : P := h
end
theorem off_Pl3 : True := by
  w_top off
  trivial
section
variable {w : World} {hd : Option Value} {dp un : Nat} {gd : Option (List Code)} {env : Env} {outer : List Env} {A₀ : Around} {base h₀ : Heap} {L : Addr} {m : Str → Option Value}
    {p : Program} {loose : List Str} {mean : ExcName → Option Value} {mg mb : Str → Option Value} {s : Shared} {R : Result → Shared → Prop}
    {rest : List (Addr × Obj)}
/-- what _law_gone gives is well made -/
structure OkG (r : List (List Dat × Nat) × List Str × Str × List Str) : Prop where
  a : ∀ f ∈ r.1, ∀ d ∈ f.1, kqdOk 0 d = true
  o : ∀ x ∈ r.2.1, PyData.strOk x = true
  w : PyData.strOk r.2.2.1 = true
  i : ∀ x ∈ r.2.2.2, PyData.strOk x = true
def OrdOk (o : Ord) : Prop := ∀ y, o.po = some y → PyData.strOk y = true
inductive OkS (lots : List (List Str)) : Served → Prop
  | yes {ds : List Dat} {n : Nat} {lots' : List (List Str)} {outs : List Str} {row : Str} {ins : List Str} : (∀ d ∈ ds, kqdOk 0 d = true) → (∀ x ∈ outs, PyData.strOk x = true) → PyData.strOk row = true → (∀ x ∈ ins, PyData.strOk x = true) → (∀ x ∈ lots'.flatten, PyData.strOk x = true) → OkS lots (.yes ds n lots' outs row ins)
  | no {n : Nat} {outs : List Str} {row : Str} {ins : List Str} : (∀ x ∈ outs, PyData.strOk x = true) → PyData.strOk row = true → (∀ x ∈ ins, PyData.strOk x = true) → OkS lots (.no n outs row ins)
theorem okS_serve {o : Ord} (hp : OrdOk o) : ∀ (lots : List (List Str)) (n : Nat) (outs : List Str) (row : Str) (ins : List Str), (∀ x ∈ outs, PyData.strOk x = true) → PyData.strOk row = true → (∀ x ∈ ins, PyData.strOk x = true) → (∀ x ∈ lots.flatten, PyData.strOk x = true) →
    OkS lots (serve (asked o) lots n outs row ins) := by
  intro lots
  induction lots with
  | nil =>
    intro n outs row ins ho hr hi hl
    have ha := okS_asked hp hi ho hr
    obtain ⟨kd, hk⟩ := (asked_facts o outs row ins).1
    unfold serve
    revert ha hk
    rcases asked o outs row ins with ⟨(_ | ds), outs', row', ins'⟩
    · intro ha hk; have hk2 : ins' = ins.drop kd := hk; exact .no ha.o ha.w fun x hx => hi x (List.mem_of_mem_drop (hk2 ▸ hx))
    · intro ha hk; have hk2 : ins' = ins.drop kd := hk; exact .yes (ha.a ds rfl) ha.o ha.w (fun x hx => hi x (List.mem_of_mem_drop (hk2 ▸ hx))) hl
  | cons l lots ih =>
    intro n outs row ins ho hr hi hl
    have ha := okS_asked hp hi ho hr
    obtain ⟨kd, hk⟩ := (asked_facts o outs row ins).1
    unfold serve
    revert ha hk
    rcases asked o outs row ins with ⟨(_ | ds), outs', row', ins'⟩
    · intro ha hk
      have hk2 : ins' = ins.drop kd := hk
      have z := ih (n + 1) outs' row' (ins' ++ l) ha.o ha.w (fun x hx => by
        rcases List.mem_append.mp hx with hx | hx
        · exact hi x (List.mem_of_mem_drop (hk2 ▸ hx))
        · exact hl x (by rw [List.flatten_cons]; exact List.mem_append_left _ hx)) (fun x hx => hl x (by rw [List.flatten_cons]; exact List.mem_append_right _ hx))
      dsimp only
      revert z
      generalize serve (asked o) lots (n + 1) outs' row' (ins' ++ l) = sv
      intro z
      cases z with
      | yes a b c d e => exact .yes a b c d e
      | no a b c => exact .no a b c
    · intro ha hk; have hk2 : ins' = ins.drop kd := hk; exact .yes (ha.a ds rfl) ha.o ha.w (fun x hx => hi x (List.mem_of_mem_drop (hk2 ▸ hx))) hl
theorem gone_ok : ∀ (os : List Ord) (lots : List (List Str)) (n : Nat) (found : List (List Dat × Nat)) (outs : List Str) (row : Str) (ins : List Str), (∀ o ∈ os, OrdOk o) → (∀ f ∈ found, ∀ d ∈ f.1, kqdOk 0 d = true) →
    (∀ x ∈ outs, PyData.strOk x = true) → PyData.strOk row = true → (∀ x ∈ ins, PyData.strOk x = true) → (∀ x ∈ lots.flatten, PyData.strOk x = true) → OkG (gone os lots n found outs row ins) ∧ (gone os lots n found outs row ins).1.length ≤ found.length + os.length := by
  intro os
  induction os with
  | nil =>
    intro lots n found outs row ins _ hf ho hr hi hl
    unfold gone
    refine ⟨⟨hf, ho, hr, fun x hx => ?_⟩, Nat.le_add_right _ _⟩
    rcases List.mem_append.mp hx with hx | hx
    · exact hi x hx
    · exact hl x hx
  | cons o os ih =>
    intro lots n found outs row ins hos hf ho hr hi hl
    have z := okS_serve (hos o (.head _)) lots n outs row ins ho hr hi hl
    unfold gone
    revert z
    generalize serve (asked o) lots n outs row ins = sv
    intro z
    cases z with
    | no a b c => exact ⟨⟨hf, a, b, c⟩, Nat.le_add_right _ _⟩
    | yes a b c d e =>
      rename_i ds n' lots' outs' row' ins'
      dsimp only
      obtain ⟨h1, h2⟩ := ih lots' n' (found ++ [(ds, n')]) outs' row' ins' (fun o ho => hos o (.tail _ ho)) (fun f hf' => by
        rcases List.mem_append.mp hf' with hf' | hf'
        · exact hf f hf'
        · rw [List.mem_singleton.mp hf']; exact a) b c d e
      refine ⟨h1, Nat.le_trans h2 ?_⟩
      simp only [List.length_append, List.length_cons, List.length_nil]
      omega
end
theorem wd_A_20 : True := by
  k_with "call ref" => (k_here; (with_reducible show wpAny _ _ (call (Value.ref 152) _ _) _ _ _); k_dflt (refine' world_spec ⟨?w9hB, ?w9hF, ?w9hX, ?w9hT, ?w9hf, ?w9hk⟩ ?w9hN ?w9hd ?_; (case w9hF => k_asm); (case w9hB => k_asm); (case w9hX => k_asm); (case w9hT => k_asm); (case w9hf => first | exact rfl | assumption); (case w9hk => first | exact rfl | assumption); (case w9hN => k_asm); (case w9hd => k_room); k_whole); intro dx_w x_w io_w oo_w es_w n_w tk_w h_w hW_w q1_w q2_w q3_w q4_w F_w N_w; (try k_sweep); (obtain ⟨⟨tr_w, hr_w⟩, hi_w, ho_w, hlen_w⟩ := (id hW_w)))
  trivial
theorem off_Gn1 : True := by
  w_top off
  trivial
section
variable {w : World} {hd : Option Value} {dp un : Nat} {gd : Option (List Code)} {env : Env} {outer : List Env} {A₀ : Around} {base h₀ : Heap} {L : Addr} {m : Str → Option Value}
    {p : Program} {loose : List Str} {mean : ExcName → Option Value} {mg mb : Str → Option Value} {s : Shared} {R : Result → Shared → Prop}
    {rest : List (Addr × Obj)}
inductive OrdsIn (l : List (Addr × Obj)) : List Value → List Ord → Prop
  | nil : OrdsIn l [] []
  | cons {Od c : Nat} {kv pv : Value} {o : Ord} {vs : List Value} {os : List Ord} : (Od, ({ cls := .type "tuple", data := .seq #[kv, pv, .bool o.b] c } : Obj)) ∈ l → OptV o.po pv → (∀ y, o.po = some y → y.length ≤ 100 ∧ PyData.strOk y = true) → KindsIn l kv o.ks →
      OrdsIn l vs os → OrdsIn l (.ref Od :: vs) (o :: os)
inductive LotsIn (l : List (Addr × Obj)) : List Value → List (List Str) → Prop
  | nil : LotsIn l [] []
  | cons {la n : Nat} {tvs vs : List Value} {lot : List Str} {lots : List (List Str)} : (la, listOf tvs.toArray n) ∈ l → DatAll [] tvs (lot.map Dat.str) → LotsIn l vs lots → LotsIn l (.ref la :: vs) (lot :: lots)
def foundD (found : List (List Dat × Nat)) : Dat := .list (found.map fun f => .tuple [.list f.1, .int f.2])
def stateD (st : List Str × Str × List Str) : Dat := .tuple [.list (st.1.map .str), .str st.2.1, .list (st.2.2.map .str)]
def goneD (r : List (List Dat × Nat) × List Str × Str × List Str) : Dat := .tuple [foundD r.1, stateD r.2]
theorem okD_state {outs ins : List Str} {row : Str} (h1 : ∀ y ∈ outs, PyData.strOk y = true) (h2 : PyData.strOk row = true) (h3 : ∀ y ∈ ins, PyData.strOk y = true) : kqdOk 9 (stateD (outs, row, ins)) = true := by
  unfold stateD
  refine okD_tuple fun d hd => ?_
  simp only [List.mem_cons, List.not_mem_nil, or_false] at hd
  rcases hd with rfl | rfl | rfl
  · exact okD_strs h1
  · exact okD_str h2
  · exact okD_strs h3
/-- the names of _law_gone's frame -/
def GNames (Oa x La fo at_ : Nat) (M : Str → Option Value) : Prop :=
  M (Str.ofString "orders") = some (.ref Oa) ∧ M (Str.ofString "world") = some (.ref x) ∧ M (Str.ofString "found") = some (.ref fo) ∧ M (Str.ofString "lots") = some (.ref La) ∧ ∃ tk, M (Str.ofString "at") = some (.int at_ tk)
theorem GNames.set {Oa x La fo at_ : Nat} {M : Str → Option Value} {n : Str} {v : Option Value} (h : GNames Oa x La fo at_ M) (h1 : Str.ofString "orders" ≠ n) (h2 : Str.ofString "world" ≠ n) (h3 : Str.ofString "found" ≠ n) (h4 : Str.ofString "lots" ≠ n) (h5 : Str.ofString "at" ≠ n) :
    GNames Oa x La fo at_ (fun y => if y = n then v else M y) := by
  obtain ⟨a1, a2, a3, a4, t, a5⟩ := h
  exact ⟨Eq.trans (if_neg h1) a1, Eq.trans (if_neg h2) a2, Eq.trans (if_neg h3) a3, Eq.trans (if_neg h4) a4, t, Eq.trans (if_neg h5) a5⟩
theorem GNames.setAt {Oa x La fo at_ at' : Nat} {M : Str → Option Value} {t : Tok} (h : GNames Oa x La fo at_ M) : GNames Oa x La fo at' (fun y => if y = Str.ofString "at" then some (.int at' t) else M y) := by
  obtain ⟨a1, a2, a3, a4, _, a5⟩ := h
  exact ⟨Eq.trans (if_neg (by decide)) a1, Eq.trans (if_neg (by decide)) a2, Eq.trans (if_neg (by decide)) a3, Eq.trans (if_neg (by decide)) a4, t, if_pos rfl⟩
/-- the ground's facts, as a try leaves them -/
structure GTop (w : World) (A : Around) (base g₀ : Heap) (env : Env) (p : Program) (loose : List Str) (mean : ExcName → Option Value) (mg mb : Str → Option Value) (g : Heap) : Prop where
  T : KtsTurn ([env].filterMap (·.frame)) g₀ g
  D : KtsDicts ([env].filterMap (·.frame)) g
  B : Below A base [env] g
  X : (Mine.hd.heap_1 w.params).In g
  P : Top p loose mean mg mb g
/-- the addresses' order -/
structure GAp (rest tl : List (Addr × Obj)) (dx x io oo fo : Nat) : Prop where
  e1 : ∀ q ∈ rest, q.1 < dx
  e2 : dx < x
  e3 : x < oo
  e4 : oo < io
  e5 : oo < fo
  e6 : io ≠ fo
  e7 : ∀ q ∈ tl, fo < q.1
  e8 : ∀ q ∈ tl, q.1 ≠ io
def foundL (found : List (List Dat × Nat)) : List Dat := found.map fun f => .tuple [.list f.1, .int f.2]
/-- the state of _law_gone -/
structure GSt (dx x oo fo : Nat) (rest : List (Addr × Obj)) (lots : List (List Str)) (at_ : Nat) (found : List (List Dat × Nat)) (outs : List Str) (row : Str) (ins : List Str) (fb : Nat)
    (es : List DictEntry) (n io : Nat) (ivs : List Value) (ni : Nat) (ovs : List Value) (no : Nat) (fvs : List Value) (nf : Nat) (tl news : List (Addr × Obj)) : Prop where
  W : WD es row io oo
  I : DatAll [] ivs (ins.map Dat.str)
  O : DatAll [] ovs (outs.map Dat.str)
  Fo : DatAll tl fvs (foundL found)
  fl : fvs.length ≤ fb
  sz : ovs.length + 2 * ivs.length + 2 * (lots.drop at_).flatten.length ≤ 200
  rl : row.length ≤ 100
  ok : (∀ y ∈ outs, PyData.strOk y = true) ∧ PyData.strOk row = true
  ir : ∀ r ∈ ins, r.length ≤ 100 ∧ PyData.strOk r = true
  al : at_ ≤ lots.length
  ap : GAp rest tl dx x io oo fo
  nw : news = (dx, dictOf es n) :: (x, instObj 152 dx) :: (io, listOf ivs.toArray ni) :: (oo, listOf ovs.toArray no) :: (fo, listOf fvs.toArray nf) :: (tl ++ rest)
theorem OrdsIn.get {l : List (Addr × Obj)} {vs : List Value} {os : List Ord} (h : OrdsIn l vs os) : ∀ {k : Nat} {v : Value}, vs[k]? = some v → ∃ (Od c : Nat) (kv pv : Value) (o : Ord), v = .ref Od ∧ (Od, ({ cls := .type "tuple", data := .seq #[kv, pv, .bool o.b] c } : Obj)) ∈ l ∧
    OptV o.po pv ∧ (∀ y, o.po = some y → y.length ≤ 100 ∧ PyData.strOk y = true) ∧ KindsIn l kv o.ks ∧ os.drop k = o :: os.drop (k + 1) := by
  induction h with
  | nil => intro k v h; simp at h
  | cons h1 h2 h3 h4 h5 ih =>
    intro k v h
    cases k with
    | zero => simp at h; exact ⟨_, _, _, _, _, h.symm, h1, h2, h3, h4, rfl⟩
    | succ k => exact ih (by simpa using h)
theorem OrdsIn.length {l : List (Addr × Obj)} {vs : List Value} {os : List Ord} (h : OrdsIn l vs os) : vs.length = os.length := by
  induction h with
  | nil => rfl
  | cons _ _ _ _ _ ih => simp [ih]
theorem LotsIn.length {l : List (Addr × Obj)} {vs : List Value} {os : List (List Str)} (h : LotsIn l vs os) : vs.length = os.length := by
  induction h with
  | nil => rfl
  | cons _ _ _ ih => simp [ih]
theorem LotsIn.get {l : List (Addr × Obj)} {vs : List Value} {lots : List (List Str)} (h : LotsIn l vs lots) : ∀ {k : Nat}, k < lots.length → ∃ (la n : Nat) (tvs : List Value) (lot : List Str), vs[k]? = some (.ref la) ∧ (la, listOf tvs.toArray n) ∈ l ∧ DatAll [] tvs (lot.map Dat.str) ∧ lots.drop k = lot :: lots.drop (k + 1) := by
  induction h with
  | nil => intro k h; simp at h
  | cons h1 h2 h3 ih =>
    intro k h
    cases k with
    | zero => exact ⟨_, _, _, _, rfl, h1, h2, rfl⟩
    | succ k => exact ih (by simpa using h)
/-- what `answer` stands for -/
def AnsIn (tl : List (Addr × Obj)) (M : Str → Option Value) : Option (List Dat) → Prop
  | none => M (Str.ofString "answer") = some .none
  | some ds => ∃ (l : Nat) (vs : List Value) (nl : Nat), M (Str.ofString "answer") = some (.ref l) ∧ (l, listOf vs.toArray nl) ∈ tl ∧ DatAll [] vs ds
def servedIs (o : Ord) (lots : List (List Str)) (at_ : Nat) (outs : List Str) (row : Str) (ins : List Str) : Option (List Dat) → Served
  | none => serve (asked o) (lots.drop at_) at_ outs row ins
  | some ds => .yes ds at_ (lots.drop at_) outs row ins
theorem nm_eight {g h : Heap} {L a1 a2 a3 a4 a5 a6 a7 a8 : Addr} {o1 o2 o3 o4 o6 o7 o8 : Obj} {es : List DictEntry} {n : Nat} {r : List (Addr × Obj)} (_N : News g L h ((a1, o1) :: (a2, o2) :: (a3, o3) :: (a4, o4) :: (a5, dictOf es n) :: (a6, o6) :: (a7, o7) :: (a8, o8) :: r)) :
    ∃ (b2 b4 b5 b6 b7 b8 n' : Nat) (es' : List DictEntry), b2 = a2 ∧ b4 = a4 ∧ b5 = a5 ∧ b6 = a6 ∧ b7 = a7 ∧ b8 = a8 ∧ n' = n ∧ es' = es := ⟨_, _, _, _, _, _, _, _, rfl, rfl, rfl, rfl, rfl, rfl, rfl, rfl⟩
theorem nm_state {g h : Heap} {L D D1 D2 : Addr} {row : Str} {t : Tok} {o1 o2 : Obj} {r : List (Addr × Obj)} (_N : News g L h ((D, tupO #[.ref D2, .str row t, .ref D1]) :: (D1, o1) :: (D2, o2) :: r)) : ∃ (b b1 b2 : Nat) (t' : Tok), b = D ∧ b1 = D1 ∧ b2 = D2 ∧ t' = t := ⟨_, _, _, _, rfl, rfl, rfl, rfl⟩
theorem serve_yes {o : Ord} {lots : List (List Str)} {n : Nat} {outs : List Str} {row : Str} {ins : List Str} {ds : List Dat} {outs' : List Str} {row' : Str} {ins' : List Str} (h : asked o outs row ins = (some ds, outs', row', ins')) :
    serve (asked o) lots n outs row ins = .yes ds n lots outs' row' ins' := by
  cases lots with
  | nil => rw [serve, h]
  | cons l lots => rw [serve, h]
theorem serve_stop {o : Ord} {n : Nat} {outs : List Str} {row : Str} {ins : List Str} {outs' : List Str} {row' : Str} {ins' : List Str} (h : asked o outs row ins = (none, outs', row', ins')) :
    serve (asked o) [] n outs row ins = .no n outs' row' ins' := by
  rw [serve, h]
theorem serve_more {o : Ord} {l : List Str} {lots : List (List Str)} {n : Nat} {outs : List Str} {row : Str} {ins : List Str} {outs' : List Str} {row' : Str} {ins' : List Str} (h : asked o outs row ins = (none, outs', row', ins')) :
    serve (asked o) (l :: lots) n outs row ins = serve (asked o) lots (n + 1) outs' row' (ins' ++ l) := by
  rw [serve, h]
/-- what is handed back -/
def retL (T D D1 D2 fo : Nat) (row : Str) (t : Tok) (ivs ovs fvs : List Value) (nf : Nat) (tl : List (Addr × Obj)) : List (Addr × Obj) :=
  (T, tupO #[.ref fo, .ref D]) :: (D, tupO #[.ref D2, .str row t, .ref D1]) :: (D1, listOf ivs.toArray 0) :: (D2, listOf ovs.toArray 0) :: (fo, listOf fvs.toArray nf) :: tl
theorem gone_ret {rest tl : List (Addr × Obj)} {dx x io oo fo T D D1 D2 nf : Nat} {row : Str} {t : Tok} {ivs ovs fvs : List Value} {found : List (List Dat × Nat)} {outs ins : List Str} (hap : GAp rest tl dx x io oo fo) (hFo : DatAll tl fvs (foundL found))
    (hI : DatAll [] ivs (ins.map Dat.str)) (hO : DatAll [] ovs (outs.map Dat.str)) (q : AllLt D2 (tl ++ rest)) (q1 : D2 < D1) (q2 : D1 < D) (q3 : D < T) :
    DatIn (retL T D D1 D2 fo row t ivs ovs fvs nf tl) (.ref T) (goneD (found, outs, row, ins)) ∧ ∀ q ∈ retL T D D1 D2 fo row t ivs ovs fvs nf tl, ∀ p ∈ rest, p.1 ≠ q.1 := by
  unfold retL
  refine ⟨.tuple (vs := [.ref fo, .ref D]) (by k_mem) (.cons (.list (by k_mem) (hFo.mono fun p hp => .tail _ (.tail _ (.tail _ (.tail _ (.tail _ hp)))))) (.one (.tuple (vs := [.ref D2, .str row t, .ref D1]) (by k_mem) (.cons (.list (by k_mem) (hO.mono (fun _ hp => absurd hp List.not_mem_nil))) (.cons (.str _ _) (.one (.list (by k_mem) (hI.mono (fun _ hp => absurd hp List.not_mem_nil))))))))), ?_⟩
  obtain ⟨a1, a2, a3, a4, a5, a6, a7, a8⟩ := hap
  intro z hz p hp
  have b1 := a1 p hp
  have b2 := lt_of_allLt q p (List.mem_append_right _ hp)
  simp only [List.mem_cons] at hz
  rcases hz with rfl | rfl | rfl | rfl | rfl | hz
  · exact Nat.ne_of_lt (Nat.lt_trans b2 (Nat.lt_trans q1 (Nat.lt_trans q2 q3)))
  · exact Nat.ne_of_lt (Nat.lt_trans b2 (Nat.lt_trans q1 q2))
  · exact Nat.ne_of_lt (Nat.lt_trans b2 q1)
  · exact Nat.ne_of_lt b2
  · exact Nat.ne_of_lt (Nat.lt_trans b1 (Nat.lt_trans a2 (Nat.lt_trans a3 a5)))
  · exact Nat.ne_of_lt (Nat.lt_trans b1 (Nat.lt_trans (Nat.lt_trans a2 (Nat.lt_trans a3 a5)) (a7 z hz)))
theorem nm_ret {g h : Heap} {L T D D1 D2 : Addr} {row : Str} {t : Tok} {o0 o1 o2 : Obj} {r : List (Addr × Obj)} (_N : News g L h ((T, o0) :: (D, tupO #[.ref D2, .str row t, .ref D1]) :: (D1, o1) :: (D2, o2) :: r)) : ∃ (b0 b b1 b2 : Nat) (t' : Tok), b0 = T ∧ b = D ∧ b1 = D1 ∧ b2 = D2 ∧ t' = t := ⟨_, _, _, _, _, rfl, rfl, rfl, rfl, rfl⟩
theorem nm_io {g h : Heap} {L a b : Addr} {o : Obj} {es : List DictEntry} {n : Nat} {r : List (Addr × Obj)} (_N : News g L h ((a, o) :: (b, dictOf es n) :: r)) : ∃ (a' : Nat) (es' : List DictEntry) (n' : Nat), a' = a ∧ es' = es ∧ n' = n := ⟨_, _, _, rfl, rfl, rfl⟩
section
variable {g h : Heap} {L : Addr} {a b c d e f x y z u v D l : Addr × Obj} {r tl : List (Addr × Obj)}
theorem gn_rot (N : News g L h (a :: b :: c :: d :: e :: f :: r)) : News g L h (b :: c :: d :: e :: f :: a :: r) := N.perm (by
  intro q hq; simp only [List.mem_cons] at hq ⊢; rcases hq with hq | hq | hq | hq | hq | hq | hq <;> simp [hq])
theorem gn_behind (N : News g L h (x :: y :: z :: b :: c :: d :: e :: f :: a :: r)) : News g L h (b :: c :: d :: e :: f :: (a :: x :: y :: z :: r)) := N.perm (by
  intro q hq; simp only [List.mem_cons] at hq ⊢; rcases hq with hq | hq | hq | hq | hq | hq | hq | hq | hq | hq <;> simp [hq])
theorem gn_told (N : News g L h (l :: b :: c :: d :: e :: f :: a :: x :: y :: z :: (tl ++ r))) : News g L h (a :: b :: c :: d :: e :: f :: ((l :: tl) ++ r)) := N.perm (by
  intro q hq; simp only [List.mem_cons, List.cons_append] at hq ⊢; rcases hq with hq | hq | hq | hq | hq | hq | hq | hq <;> simp [hq])
theorem gn_found (N : News g L h (D :: a :: b :: c :: d :: e :: f :: (tl ++ r))) : News g L h (a :: b :: c :: d :: e :: f :: ((D :: tl) ++ r)) := N.perm (by
  intro q hq; simp only [List.mem_cons, List.cons_append] at hq ⊢; rcases hq with hq | hq | hq | hq | hq | hq | hq | hq <;> simp [hq])
theorem gn_more (N : News g L h (l :: b :: c :: d :: e :: f :: a :: x :: y :: z :: r)) : News g L h (a :: b :: c :: l :: e :: f :: r) := N.perm (by
  intro q hq; simp only [List.mem_cons] at hq ⊢; rcases hq with hq | hq | hq | hq | hq | hq | hq <;> simp [hq])
theorem gn_last (N : News g L h (l :: b :: c :: d :: e :: f :: r)) : News g L h (b :: c :: l :: e :: f :: r) := N.perm (by
  intro q hq; simp only [List.mem_cons] at hq ⊢; rcases hq with hq | hq | hq | hq | hq | hq <;> simp [hq])
theorem gn_ap {it dx' x' io oo fo io' : Nat} {o1 o2 o3 o4 o5 p1 p2 p3 p4 p5 : Obj} (ap : ∀ p ∈ (dx', o1) :: (x', o2) :: (io, o3) :: (oo, o4) :: (fo, o5) :: r, p.1 ≠ it) (hi : io' ≠ it) {tl' : List (Addr × Obj)} (ht : ∀ p ∈ tl', p.1 ≠ it) :
    ∀ p ∈ (dx', p1) :: (x', p2) :: (io', p3) :: (oo, p4) :: (fo, p5) :: (tl' ++ r), p.1 ≠ it := by
  intro p hp
  simp only [List.mem_cons, List.mem_append] at hp
  rcases hp with rfl | rfl | rfl | rfl | rfl | hp | hp
  · exact ap (dx', o1) (by simp)
  · exact ap (x', o2) (by simp)
  · exact hi
  · exact ap (oo, o4) (by simp)
  · exact ap (fo, o5) (by simp)
  · exact ht p hp
  · exact ap p (by simp [hp])
end
theorem wd_A_21 : True := by
  k_with "call ref" => (k_here; (with_reducible show wpAny _ _ (call (Value.ref 187) _) _ _ _); refine stop_any ?_)
  k_with "subscriptTail Name Constant ref int" => (k_here; (with_reducible show wpAny _ _ (subscriptTail _ _ (Value.ref _) (Value.int _ _)) _ _ _); k_dflt (refine' kim_tup (lo := tupO _) ?w9N ?w9hm ?w9hc ?w9hd ?w9hlo ?w9hhi ?w9hj ?w9hx ?_; (case w9N => k_asm); (case w9hm => k_mem); (case w9hc => rfl); (case w9hd => rfl); (case w9hlo => decide); (case w9hhi => decide); (case w9hj => rfl); (case w9hx => rfl); k_whole))
  k_with "compareOp NotEq ref ref" => (k_here; (with_reducible show wpAny _ _ (compareOp CmpOp.NotEq (Value.ref _) (Value.ref _)) _ _ _); refine stop_any ?_)
  k_with "compareOp Eq ref ref" => (k_here; (with_reducible show wpAny _ _ (compareOp CmpOp.Eq (Value.ref _) (Value.ref _)) _ _ _); refine stop_any ?_)
  trivial
theorem add_led {prog : Program} {w : World} {A : Around} {E : Value → Shared → Prop} {s : Shared} {h₀ : Heap} {L a b : Addr} {m : Str → Option Value} {news : List (Addr × Obj)} {vs ws : List Value} {n n' : Nat} {Q : Value → Shared → Prop}
    (F : Fr h₀ L s.heap m) (N : News h₀ L s.heap news) (ha : (a, listOf vs.toArray n) ∈ news) (hb : (b, listOf ws.toArray n') ∈ news) (hz : vs.length + ws.length ≤ 100000)
    (h : ∀ (D : Nat) h', Fr h₀ L h' m → News h₀ L h' ((D, listOf (vs ++ ws).toArray 0) :: news) → (∀ p ∈ news, p.1 < D) → Q (.ref D) { s with heap := h' }) : wpAny (model prog w) A (binaryOp .Add (.ref a) (.ref b)) Q E s := by
  refine kmk_add_lit F N (N.isList ha) (N.isList hb) (by simp) (fun D h' F' N' l => h D h' F' N' l) ?_
  rw [sizeLine_eq]; simp; omega
theorem wd_A_22 : True := by
  k_with "binaryOp Add ref ref" => (k_here; (with_reducible show wpAny _ _ (binaryOp _ (Value.ref _) (Value.ref _)) _ _ _); k_dflt (refine' add_led ?w9F ?w9N ?w9a ?w9b ?w9z ?_; (case w9F => k_asm); (case w9N => k_asm); (case w9a => k_mem); (case w9b => k_mem); (case w9z => omega); k_whole); intro D_w h_w F_w N_w l1_w; (try k_lt l1_w); (try k_sweep))
  k_with "subscriptTail Name Name ref int" => (k_here; (with_reducible show wpAny _ _ (subscriptTail _ _ (Value.ref _) (Value.int _ _)) _ _ _); k_dflt (refine' kim_list (lo := listOf _ _) ?w9N ?w9hm ?w9hc ?w9hd ?w9hlo ?w9hhi ?w9hx ?_; (case w9N => k_asm); (case w9hm => k_mem); (case w9hc => rfl); (case w9hd => rfl); (case w9hlo => omega); (case w9hhi => omega); (case w9hx => (rw [Int.toNat_natCast]; assumption)); k_whole))
  k_with "call builtin:len" => (k_here; (with_reducible show wpAny _ _ (call (Value.builtin "len") [Value.ref _]) _ _ _); k_dflt (refine' len_led ?w9N ?w9m ?w9z ?_; (case w9N => k_asm); (case w9m => k_mem); (case w9z => with_reducible assumption); k_whole))
  k_with "execs cons" => contradiction
  k_with "execs nil" => contradiction
  trivial
/-- a statement that leaves names and ledger as they are, whatever way it takes -/
def ThruEnd (g : Heap) (L : Nat) (M : Str → Option Value) (news : List (Addr × Obj)) (s : Shared) (f : Flow) (s' : Shared) : Prop := f = .next ∧ ∃ h tk, s' = { s with heap := h, toks := tk } ∧ Fr g L h M ∧ News g L h news
theorem thru {prog : Program} {w : World} {A : Around} {t : Sem Flow} {Q : Flow → Shared → Prop} {E : Value → Shared → Prop} {s : Shared} {g : Heap} {L : Addr} {M : Str → Option Value} {news : List (Addr × Obj)} (_F : Fr g L s.heap M)
    (h1 : wpAny (model prog w) A t (ThruEnd g L M news s) E s) (h2 : ∀ h tk, Fr g L h M → News g L h news → Q .next { s with heap := h, toks := tk }) : wpAny (model prog w) A t Q E s :=
  wpAny_mono h1 (fun f s' ⟨e, h, tk, e', F, N⟩ => by subst e e'; exact h2 h tk F N) fun _ _ e => e
theorem wd_A_23 : True := by
  k_with "exec If BoolOp" => (k_here; refine stop_any ?_)
  trivial
theorem gone_spec {Oa Fa La nO nF nL : Nat} {ovs fvs lvs : List Value} {os : List Ord} {first : List Str} {lots : List (List Str)} {bg : Str} {tb : Tok}
    (H : Here w A₀ base [] h₀ L m p loose mean mg mb env s) (XB : (Mine.hd.heap_1 w.params).In base) (TB : Top p loose mean mg mb base)
    (N : News h₀ L s.heap rest)
    (hdp : dp + 80 < recursionLimit) (hun : un + 150 < cLine)
    (hOa : (Oa, listOf ovs.toArray nO) ∈ rest) (hO : OrdsIn rest ovs os) (hFa : (Fa, listOf fvs.toArray nF) ∈ rest) (hF1 : DatAll [] fvs (first.map Dat.str)) (hLa : (La, listOf lvs.toArray nL) ∈ rest) (hL1 : LotsIn rest lvs lots)
    (htx : ∀ r ∈ first ++ lots.flatten, r.length ≤ 100 ∧ PyData.strOk r = true) (hsz : (first ++ lots.flatten).length ≤ 100) (hszo : os.length ≤ 100) (hszl : lots.length ≤ 100) (hb : bg.length ≤ 100) (hbk : PyData.strOk bg = true)
    (post : ∀ v h' tk tl, DatIn tl v (goneD (gone os lots 0 [] [] bg first)) → Fr h₀ L h' m → News h₀ L h' (tl ++ rest) → (∀ q ∈ tl, ∀ p ∈ rest, p.1 ≠ q.1) → R (.ok (.ret v)) { s with heap := h', toks := tk }) :
    codeAny (model Challenge.rw_sm0001_01.row.prog w) (At none dp un gd env []) (.call (.ref 201) ⟨[.ref Oa, .str bg tb, .ref Fa, .ref La], []⟩) R s := by
  obtain ⟨B, F, X, T, hf, hke⟩ := H
  refine' code_defT (A := At none dp un gd env []) (env := env) B F X N T rfl hf hke ?k6 ?k7 ?hroom ?k9 ?kB ?_ ?c2 ?c3 ?c4 ?c5
  case k6 => k_dflt k_is
  case k7 => k_dflt k_is
  case hroom => k_room
  case k9 => exact BindsTo.of_eq rfl
  case c5 => decide
  case kB => exact locs rfl
  case c2 => exact rfl
  case c3 => exact rfl
  case c4 => exact rfl
  intro g' L' h' FG' F' N' B' X' T' D'
  dsimp only
  k_fold
  have hfl : fvs.length ≤ 100 := by
    have := hF1.length
    rw [List.length_map] at this
    rw [List.length_append] at hsz
    omega
  have hMN : ∃ M, Fr g' L' h' M ∧ M (Str.ofString "orders") = some (.ref Oa) ∧ M (Str.ofString "begin") = some (.str bg tb) ∧ M (Str.ofString "first") = some (.ref Fa) ∧ M (Str.ofString "lots") = some (.ref La) := ⟨_, F', rfl, rfl, rfl, rfl⟩
  clear F'
  obtain ⟨M0, F', hM1, hM2, hM3, hM4⟩ := hMN
  k_steps
  unfold Stop
  refine wpAny_For ?_
  rename Fr g' L' _ _ => FX
  rename News g' L' _ _ => NX
  k_steps
  obtain ⟨io, fo, dx, x, io0, oo, nd, esd, e1, e2, e3, e4, e5, e6, e7, e8⟩ := nm_eight NX
  rw [← e7, ← e8] at NX
  clear e7
  subst e1 e2 e3 e4 e5 e6
  rename WD _ _ _ _ => hW0
  rename (∀ (q : Addr × Obj), q ∈ rest → q.1 < dx) => hz1
  refine for_ledA (vs := ovs) (na := nO) (fun k g M news => ∃ at_ found outs row ins, GTop w (At none dp un gd env []) base g' env p loose mean mg mb g ∧ GNames Oa x La fo at_ M ∧
    (∃ es n io ivs ni ovs no fvs nf tl, GSt dx x oo fo rest lots at_ found outs row ins k es n io ivs ni ovs no fvs nf tl news) ∧ gone os lots 0 [] [] bg first = gone (os.drop k) (lots.drop at_) at_ found outs row ins)
    (news := (dx, dictOf esd nd) :: (x, instObj 152 dx) :: (io, listOf fvs.toArray 0) :: (oo, listOf ([] : List Value).toArray 0) :: (fo, listOf ([] : List Value).toArray 0) :: ([] ++ rest)) rfl FX ?N ?hm ?hE ?h0 ?mem ?turn ?fin
  case N => exact NX.perm (by
    intro q hq
    simp only [List.mem_cons, List.nil_append] at hq ⊢
    rcases hq with hq | hq | hq | hq | hq | hq <;> simp [hq])
  case hm => exact List.mem_cons_of_mem _ (List.mem_cons_of_mem _ (List.mem_cons_of_mem _ (List.mem_cons_of_mem _ (List.mem_cons_of_mem _ hOa))))
  case hE => first | passes_own | with_unfolding_all passes_own
  case h0 =>
    have hl0 := hF1.length
    rw [List.length_map] at hl0
    rw [List.length_append] at hsz
    refine ⟨0, [], [], bg, first, ⟨.refl, D', B', X', T'⟩, ⟨?_, if_pos rfl, ?_, ?_, ?_⟩, ⟨esd, nd, io, fvs, 0, [], 0, [], 0, [], ?_, hF1, .nil, .nil, Nat.le_refl _, ?_, hb, ⟨fun _ h => (nomatch h), hbk⟩, fun r hr => htx r (List.mem_append_left _ hr), Nat.zero_le _, ⟨?_, ?_, ?_, ?_, ?_, ?_, ?_, ?_⟩, rfl⟩, rfl⟩
    case refine_1 => (repeat refine Eq.trans (if_neg (by decide)) ?_); exact hM1
    case refine_2 => (repeat refine Eq.trans (if_neg (by decide)) ?_); exact if_pos rfl
    case refine_3 => (repeat refine Eq.trans (if_neg (by decide)) ?_); exact hM4
    case refine_4 => exact ⟨_, Eq.trans (if_neg (by decide)) (Eq.trans (if_neg (by decide)) (if_pos rfl))⟩
    case refine_5 => rw [e8]; exact hW0.setRow.setInp
    case refine_6 => simp only [List.length_nil, List.drop_zero]; omega
    all_goals try omega
    all_goals try exact fun q hq => nomatch hq
  case mem =>
    rintro k g M news ⟨at_, found, outs, row, ins, -, -, ⟨es, n, io, ivs, ni, ovs, no, fvs, nf, tl, hS⟩, -⟩
    rw [hS.nw]
    exact List.mem_cons_of_mem _ (List.mem_cons_of_mem _ (List.mem_cons_of_mem _ (List.mem_cons_of_mem _ (List.mem_cons_of_mem _ (List.mem_append_right _ hOa)))))
  case turn =>
    rename Fr g' _ _ _ => FX2
    clear FX2 NX hW0 hz1
    rintro it o k v g M news h tk AgF QF againF hqF ⟨at_, found, outs, row, ins, hT, hM, ⟨es, n, io, ivs, ni, ovs', no, fvs, nf, tl, hS⟩, hg⟩ hv FM NM ap
    obtain ⟨Od, co, kv, pv, od, rfl, hOm, hpo, hpl, hKi, hdr⟩ := hO.get hv
    have hM' : GNames Oa x La fo at_ (fun y => if y = Str.ofString "answer" then some Value.none else if y = Str.ofString "order" then some (.ref Od) else M y) :=
      (hM.set (by decide) (by decide) (by decide) (by decide) (by decide)).set (by decide) (by decide) (by decide) (by decide) (by decide)
    k_steps
    unfold Stop
    refine whl_loopA (s := s) (fun (c : Nat × List Str × Str × List Str × Option (List Dat)) h => ∃ g M news, GTop w (At none dp un gd env []) base g' env p loose mean mg mb g ∧ GNames Oa x La fo c.1 M ∧ M (Str.ofString "order") = some (.ref Od) ∧ Fr g L' h M ∧ News g L' h ((it, o) :: news) ∧
        (∀ p ∈ news, p.1 ≠ it) ∧ (∃ es n io ivs ni ovs no fvs nf tl, GSt dx x oo fo rest lots c.1 found c.2.1 c.2.2.1 c.2.2.2.1 k es n io ivs ni ovs no fvs nf tl news ∧ AnsIn tl M c.2.2.2.2) ∧
        servedIs od lots at_ outs row ins none = servedIs od lots c.1 c.2.1 c.2.2.1 c.2.2.2.1 c.2.2.2.2)
      (fun c => match c.2.2.2.2 with | none => lots.length - c.1 + 1 | some _ => 0) ?hE ?turn (at_, outs, row, ins, none) ?h0
    case hE => first | passes_own | with_unfolding_all passes_own
    case h0 => exact ⟨g, _, news, hT, hM', Eq.trans (if_neg (by decide)) (if_pos rfl), by assumption, by assumption, ap, ⟨es, n, io, ivs, ni, ovs', no, fvs, nf, tl, hS, if_pos rfl⟩, rfl⟩
    case turn =>
      rename Fr g L' _ _ => FX3
      rename News g L' _ _ => NX3
      rename (∀ p ∈ news, p.1 ≠ it) => ap3
      clear FX3 NX3 ap3 hM' hM hS
      rintro ⟨at1, outs1, row1, ins1, ans⟩ h1 tk1 AgW QW againW hqW ⟨g1, M1, news1, hT, hM, hMo, FM, NM, ap, ⟨es, n, io, ivs, ni, ovs', no, fvs, nf, tl, hS, hA⟩, hsv⟩
      dsimp only at hM hS hA hsv
      obtain ⟨hT1, hD1, hB1, hX1, hP1⟩ := hT
      obtain ⟨hMo1, hMw, hMf, hMl, tka, hMa⟩ := (id hM : GNames _ _ _ _ _ _)
      obtain ⟨hW, hI, hO2, hFo, hfl2, hsz2, hrl, hok, hir, hal, hap, rfl⟩ := hS
      cases ans with
      | some ds =>
        obtain ⟨l, vs, nl, hMan, hlm, hds⟩ := hA
        have hk : k < ovs.length := (List.getElem?_eq_some_iff.mp hv).1
        have hlo := hO.length
        obtain ⟨a1, a2, a3, a4, a5, a6, a7, a8⟩ := hap
        have n1 : ∀ p ∈ tl ++ rest, p.1 ≠ fo := fun p hp => by
          rcases List.mem_append.mp hp with hp | hp
          · exact Nat.ne_of_gt (a7 p hp)
          · exact Nat.ne_of_lt (Nat.lt_trans (a1 p hp) (Nat.lt_trans a2 (Nat.lt_trans a3 a5)))
        have n2 : it ≠ fo := fun e => ap (fo, listOf fvs.toArray nf) (by simp) e.symm
        have n3 : dx ≠ fo := by omega
        have n4 : x ≠ fo := by omega
        have n5 : oo ≠ fo := by omega
        k_steps
        refine hqW _ _ ?_
        dsimp only
        k_steps
        rename News g1 _ _ _ => NE
        obtain ⟨Dn, e⟩ := nm_first NE
        subst e
        rw [push_list] at NE
        obtain ⟨m0, m1, m2, m3, m4, m5, m6⟩ := (by assumption : it < Dn ∧ dx < Dn ∧ x < Dn ∧ io < Dn ∧ oo < Dn ∧ fo < Dn ∧ AllLt Dn (tl ++ rest))
        unfold ForEnd Stop
        have q : gone os lots 0 [] [] bg first = gone (os.drop (k + 1)) (lots.drop at1) at1 (found ++ [(ds, at1)]) outs1 row1 ins1 := by
          rw [hg, hdr, gone]
          rw [servedIs, servedIs] at hsv
          rw [hsv]
        refine againF _ _ g1 M1 ((dx, dictOf es n) :: (x, instObj 152 dx) :: (io, listOf ivs.toArray ni) :: (oo, listOf ovs'.toArray no) :: (fo, listOf (fvs ++ [Value.ref Dn]).toArray (nf + 1)) :: (((Dn, tupO #[.ref l, .int at1 tka]) :: tl) ++ rest)) ⟨at1, found ++ [(ds, at1)], outs1, row1, ins1, ⟨hT1, hD1, hB1, hX1, hP1⟩, hM,
          ⟨es, n, io, ivs, ni, ovs', no, fvs ++ [Value.ref Dn], nf + 1, (Dn, tupO #[.ref l, .int at1 tka]) :: tl, hW, hI, hO2, ?_, ?_, hsz2, hrl, hok, hir, hal, ⟨a1, a2, a3, a4, a5, a6, ?_, ?_⟩, rfl⟩, q⟩ (by assumption) (gn_found NE) ?_
        · have e : foundL (found ++ [(ds, at1)]) = foundL found ++ [.tuple [.list ds, .int at1]] := by simp [foundL]
          rw [e]
          exact (hFo.mono fun _ hp => .tail _ hp).append (.one (.tuple (vs := [.ref l, .int at1 tka]) (.head _) (.cons (.list (.tail _ hlm) (hds.mono (fun _ hp => absurd hp List.not_mem_nil))) (.cons (.int _ _) .nil))))
        · simp only [List.length_append, List.length_cons, List.length_nil]; omega
        · intro q hq
          rcases List.mem_cons.mp hq with rfl | hq
          · exact m5
          · exact a7 q hq
        · intro q hq
          rcases List.mem_cons.mp hq with rfl | hq
          · exact Nat.ne_of_gt m3
          · exact a8 q hq
        · exact gn_ap ap (ap (io, listOf ivs.toArray ni) (.tail _ (.tail _ (.head _)))) (tl' := [(Dn, tupO #[.ref l, .int at1 tka])]) (fun p hp => by rw [List.mem_singleton.mp hp]; exact Nat.ne_of_gt m0)
      | none =>
        have hMan : M1 (Str.ofString "answer") = some .none := hA
        obtain ⟨a1, a2, a3, a4, a5, a6, a7, a8⟩ := hap
        obtain ⟨f1, f2, f3, f4⟩ := asked_facts od outs1 row1 ins1
        have hoa := okS_asked (fun y e => (hpl y e).2) (fun r hr => (hir r hr).2) hok.1 hok.2
        replace NM := gn_rot NM
        k_steps
        rename News g1 L' _ _ => NY
        obtain ⟨D, D1, D2, t0, e1, e2, e3, e4⟩ := nm_state NY
        subst e1 e2 e3 e4
        obtain ⟨u1, u2, u3, u4, u5, u6, u7⟩ := (by assumption : dx < D2 ∧ x < D2 ∧ io < D2 ∧ oo < D2 ∧ fo < D2 ∧ it < D2 ∧ AllLt D2 (tl ++ rest))
        have u8 : D2 < D1 := by assumption
        have u9 : D1 < D := by assumption
        have NZ := gn_behind NY
        clear NY
        have hsub : ∀ q ∈ rest, q ∈ ((fo, listOf fvs.toArray nf) :: (it, o) :: (D, tupO #[Value.ref D2, Value.str row1 t0, Value.ref D1]) :: (D1, listOf ivs.toArray 0) :: (D2, listOf ovs'.toArray 0) :: (tl ++ rest)) := fun q hq => .tail _ (.tail _ (.tail _ (.tail _ (.tail _ (List.mem_append_right _ hq)))))
        have w0 : ∀ q ∈ tl ++ rest, q.1 ≠ dx ∧ q.1 ≠ oo ∧ q.1 ≠ io := fun p hp => by
          rcases List.mem_append.mp hp with hp | hp
          · exact ⟨Nat.ne_of_gt (Nat.lt_trans (Nat.lt_trans a2 (Nat.lt_trans a3 a5)) (a7 p hp)), Nat.ne_of_gt (Nat.lt_trans a5 (a7 p hp)), a8 p hp⟩
          · exact ⟨Nat.ne_of_lt (a1 p hp), Nat.ne_of_lt (Nat.lt_trans (a1 p hp) (Nat.lt_trans a2 a3)), Nat.ne_of_lt (Nat.lt_trans (a1 p hp) (Nat.lt_trans a2 (Nat.lt_trans a3 a4)))⟩
        have w1 : ∀ q ∈ ((fo, listOf fvs.toArray nf) :: (it, o) :: (D, tupO #[Value.ref D2, Value.str row1 t0, Value.ref D1]) :: (D1, listOf ivs.toArray 0) :: (D2, listOf ovs'.toArray 0) :: (tl ++ rest)), q.1 ≠ dx ∧ q.1 ≠ oo ∧ q.1 ≠ io := fun q hq => by
          simp only [List.mem_cons] at hq
          rcases hq with rfl | rfl | rfl | rfl | rfl | hq
          · exact ⟨Nat.ne_of_gt (Nat.lt_trans a2 (Nat.lt_trans a3 a5)), Nat.ne_of_gt a5, a6.symm⟩
          · exact ⟨(ap (dx, dictOf es n) (by simp)).symm, (ap (oo, listOf ovs'.toArray no) (by simp)).symm, (ap (io, listOf ivs.toArray ni) (by simp)).symm⟩
          · exact ⟨Nat.ne_of_gt (Nat.lt_trans u1 (Nat.lt_trans u8 u9)), Nat.ne_of_gt (Nat.lt_trans u4 (Nat.lt_trans u8 u9)), Nat.ne_of_gt (Nat.lt_trans u3 (Nat.lt_trans u8 u9))⟩
          · exact ⟨Nat.ne_of_gt (Nat.lt_trans u1 u8), Nat.ne_of_gt (Nat.lt_trans u4 u8), Nat.ne_of_gt (Nat.lt_trans u3 u8)⟩
          · exact ⟨Nat.ne_of_gt u1, Nat.ne_of_gt u4, Nat.ne_of_gt u3⟩
          · exact w0 q hq
        rename Fr g1 L' _ _ => FY
        unfold Stop
        refine wpAny_call ?_
        k_dflt (refine' asked_spec (o := od) (c := co) ⟨?hB, FY, hX1, hP1, rfl, rfl⟩ NZ ?hd ?hu hW hI hir hO2 ?hol hpo (fun y e => (hpl y e).1) hrl (hsub _ hOm) (hKi.mono hsub) ?d1 ?d2 ?d3 ?d4 ?d5 ?d6 (fun q hq => (w1 q hq).1) (fun q hq => (w1 q hq).2.1) (fun q hq => (w1 q hq).2.2) ?zz1 ?zz2)
        case hB => k_asm
        case hd => k_room
        case hu => dsimp only [Around.deeper, Around.in1, Around.mark]; omega
        case hol => omega
        case d1 => omega
        case d2 => omega
        case d3 => omega
        case d4 => omega
        case d5 => omega
        case d6 => omega
        case zz1 =>
          intro ds outs' row' ins' h' tk' l vs nl es' n' ivs' ni' ovs1 no' hask hW' hI' hO' hol' hds F' N' l1 l2 l3 l4 l5
          clear FY NZ
          dsimp only
          k_steps
          rename Fr g1 L' _ _ => FE
          rename News g1 L' _ _ => NE
          unfold Stop
          have z1 := hI'.length
          have z2 := hO'.length
          have z3 := hI.length
          have z4 := hO2.length
          simp only [List.length_map] at z1 z2 z3 z4
          obtain ⟨kd, hkd⟩ := f1
          rw [hask] at hkd f2 f4
          have n1 : fo < l := l5 (fo, listOf fvs.toArray nf) (by simp)
          have n2 : it < l := l5 (it, o) (by simp)
          have hrow : row' = Str.ofString "" := f4 ds rfl
          rw [hask] at hoa
          dsimp only at hkd f2
          refine againW (at1, outs', row', ins', some ds) _ _ (Nat.succ_pos _) ⟨g1, _, (dx, dictOf es' n') :: (x, instObj 152 dx) :: (io, listOf ivs'.toArray ni') :: (oo, listOf ovs1.toArray no') :: (fo, listOf fvs.toArray nf) :: (((l, listOf vs.toArray nl) :: tl) ++ rest), ⟨hT1, hD1, hB1, hX1, hP1⟩,
            (hM.set (by decide) (by decide) (by decide) (by decide) (by decide)).set (by decide) (by decide) (by decide) (by decide) (by decide), Eq.trans (if_neg (by decide)) (Eq.trans (if_neg (by decide)) hMo), FE, gn_told NE, ?_,
            ⟨es', n', io, ivs', ni', ovs1, no', fvs, nf, (l, listOf vs.toArray nl) :: tl, ⟨hW', hI', hO', hFo.mono fun _ hp => .tail _ hp, hfl2, ?_, ?_, ⟨hoa.o, hoa.w⟩, ?_, hal, ⟨a1, a2, a3, a4, a5, a6, ?_, ?_⟩, rfl⟩, ⟨l, vs, nl, if_pos rfl, .head _, hds⟩⟩, hsv.trans (serve_yes hask)⟩
          · exact gn_ap ap (ap (io, listOf ivs.toArray ni) (.tail _ (.tail _ (.head _)))) (tl' := [(l, listOf vs.toArray nl)]) (fun p hp => by rw [List.mem_singleton.mp hp]; exact Nat.ne_of_gt n2)
          · show ovs1.length + 2 * ivs'.length + 2 * (lots.drop at1).flatten.length ≤ 200
            omega
          · show row'.length ≤ 100
            rw [hrow]; exact Nat.zero_le _
          · intro r hr; rw [hkd] at hr; exact hir r (List.mem_of_mem_drop hr)
          · intro q hq
            rcases List.mem_cons.mp hq with rfl | hq
            · exact n1
            · exact a7 q hq
          · intro q hq
            rcases List.mem_cons.mp hq with rfl | hq
            · exact Nat.ne_of_gt l3
            · exact a8 q hq
        case zz2 =>
          intro outs' row' h' tk' e t es' n' ivs' ni' ovs1 no' g2 hask hW' hI' hO' hol' hrl' FG2 U2 R2
          clear FY NZ
          dsimp only
          rename RaisedS _ _ _ _ _ _ _ _ _ => rsX
          k_dflt (refine' caught_SO0 ?R ?F ?K ?U ?XB ?TB ?D ?T0 ?ex ?q ?_)
          case R => assumption
          case F => assumption
          case K => assumption
          case U => assumption
          case XB => assumption
          case TB => assumption
          case D => assumption
          case T0 => assumption
          case ex => k_is
          case q => kts_isx
          intro h2 g3 n₂ T3 F3 N₂ G3 N3 K3 X3 P3 D3
          clear N₂ G3 n₂ rsX FG2
          dsimp only
          clear FG' hD1 hT1 hB1 hX1 hP1
          have z0 : ivs' = [] := by cases hI'; rfl
          subst z0
          rw [hask] at hoa
          obtain ⟨⟨tr2, hr2⟩, hi2, ho2, hlen2⟩ := (id hW' : WD _ _ _ _)
          k_steps
          rename Fr g3 L' _ _ => FV0
          unfold Stop
          refine thru FV0 (news := (dx, dictOf es' n') :: (x, instObj 152 dx) :: (io, listOf #[] ni') :: (oo, listOf ovs1.toArray no') :: (fo, listOf fvs.toArray nf) :: (it, o) :: (D, tupO #[Value.ref D2, Value.str row1 t0, Value.ref D1]) :: (D1, listOf ivs.toArray 0) :: (D2, listOf ovs'.toArray 0) :: (tl ++ rest)) ?_ fun h4 tk4 FV NV => ?_
          · refine wpAny_If ?_
            k_steps
            rename News g3 L' _ _ => NW
            obtain ⟨F0, e0⟩ := nm_first NW
            subst e0
            unfold Stop
            refine dat_eq (d := .list (ins1.map .str)) (e := .list []) NW (.list (by k_mem) (hI.mono (fun _ hp => absurd hp List.not_mem_nil))) (fun _ h => h) (.list (by k_mem) .nil) (fun _ h => h) (okD_strs fun y hy => (hir y hy).2) (okD_list (fun _ hp => absurd hp List.not_mem_nil)) (by dsimp only [Around.deeper, Around.in1, Around.mark]; omega) fun r hr => ?_
            have NV := NW.perm (news' := (dx, dictOf es' n') :: (x, instObj 152 dx) :: (io, listOf #[] ni') :: (oo, listOf ovs1.toArray no') :: (fo, listOf fvs.toArray nf) :: (it, o) :: (D, tupO #[Value.ref D2, Value.str row1 t0, Value.ref D1]) :: (D1, listOf ivs.toArray 0) :: (D2, listOf ovs'.toArray 0) :: (tl ++ rest)) (fun _ h => .tail _ h)
            clear NW
            rename Fr g3 L' _ _ => FV
            by_cases hn : ins1 = []
            case pos =>
              have hr1 : r = true := hr.mpr (by rw [hn]; rfl)
              subst hr1
              k_steps
              rename News g3 L' _ _ => NW
              unfold Stop
              have hask' := hask
              rw [hn, asked_nil] at hask'
              have hs1 : outs' = outs1 := by cases hask'; rfl
              have hs2 : row' = row1 := by cases hask'; rfl
              have hii : DatAll [] ivs ([].map Dat.str) := hn ▸ hI
              refine dat_ne (d := stateD (outs', row', [])) (e := stateD (outs1, row1, [])) NW (.tuple (by k_mem) (.cons (.list (by k_mem) (hO'.mono (fun _ hp => absurd hp List.not_mem_nil))) (.cons (.str _ _) (.one (.list (by k_mem) .nil))))) (fun _ h => h)
                (.tuple (by k_mem) (.cons (.list (by k_mem) (hO2.mono (fun _ hp => absurd hp List.not_mem_nil))) (.cons (.str _ _) (.one (.list (by k_mem) (hii.mono (fun _ hp => absurd hp List.not_mem_nil))))))) (fun _ h => h) (okD_state hoa.o hoa.w (fun _ hp => absurd hp List.not_mem_nil)) (okD_state hok.1 hok.2 (fun _ hp => absurd hp List.not_mem_nil)) (by dsimp only [Around.deeper, Around.in1, Around.mark]; omega) fun r hr => ?_
              have hr1 : r = false := by
                cases r with
                | false => rfl
                | true => exact absurd (by rw [hs1, hs2]) (hr.mp rfl)
              subst hr1
              k_steps
              rename Fr g3 L' _ _ => FV
              rename News g3 L' _ _ => NW
              exact ⟨rfl, _, _, rfl, FV, NW.perm (fun _ h => .tail _ (.tail _ (.tail _ h)))⟩
            case neg =>
              have hr1 : r = false := by
                cases r with
                | false => rfl
                | true => exact absurd (List.map_eq_nil_iff.mp (Dat.list.inj (hr.mp rfl))) hn
              subst hr1
              k_steps
              exact ⟨rfl, _, _, rfl, FV, NV⟩
          · dsimp only
            have hl1 := hL1.length
            have hlz : lvs.length ≤ 1000000 := by omega
            have hLa' : (La, listOf lvs.toArray nL) ∈ tl ++ rest := List.mem_append_right _ hLa
            have hget : at1 < lots.length → ∃ (la n : Nat) (tvs : List Value) (lot : List Str), lvs[at1]? = some (.ref la) ∧ (la, listOf tvs.toArray n) ∈ tl ++ rest ∧ DatAll [] tvs (lot.map Dat.str) ∧ lots.drop at1 = lot :: lots.drop (at1 + 1) ∧ tvs.length ≤ 100 := by
              intro hlt
              obtain ⟨la, nla, tvs, lot, hv1, hla, hlt, hdl⟩ := hL1.get hlt
              refine ⟨la, nla, tvs, lot, hv1, List.mem_append_right _ hla, hlt, hdl, ?_⟩
              have q := hlt.length
              rw [List.length_map] at q
              rw [q]
              rw [hdl, List.flatten_cons, List.length_append] at hsz2
              omega
            by_cases hc : at1 = lots.length
            · have hc2 : (at1 : Int) = (lvs.length : Int) := by omega
              k_steps
              · refine hqW _ _ ?_
                dsimp only
                unfold ForEnd
                dsimp only
                refine hqF _ _ ?_
                dsimp only
                rename Fr g3 L' _ _ => FE
                rename News g3 L' _ _ => NE
                obtain ⟨T, E, E1, E2, t1, e1, e2, e3, e4, e5⟩ := nm_ret NE
                subst e1 e2 e3 e4 e5
                obtain ⟨v0, v1, v2, v3, v4, v5, v6, v7, v8, v9⟩ := (by assumption : dx < E2 ∧ x < E2 ∧ io < E2 ∧ oo < E2 ∧ fo < E2 ∧ it < E2 ∧ D < E2 ∧ D1 < E2 ∧ D2 < E2 ∧ AllLt E2 (tl ++ rest))
                have hlast := (by assumption : E < T ∧ _).1
                obtain ⟨c1, c2⟩ := gone_ret (t := t1) (row := row') (nf := nf) (outs := outs') (ins := []) (ivs := []) ⟨a1, a2, a3, a4, a5, a6, a7, a8⟩ hFo .nil hO' v9 (by assumption) (by assumption) hlast
                refine leaveS0_ FE NE T3 fun Fh Nh => post _ _ _ _ ?_ Fh (Nh.perm ?_) c2
                · rw [hg, hdr, gone]
                  rw [servedIs, servedIs, hc, List.drop_length, serve_stop hask] at hsv
                  rw [hsv]
                  exact c1
                · intro q hq
                  simp only [retL, List.mem_append, List.mem_cons] at hq ⊢
                  rcases hq with (hq | hq | hq | hq | hq | hq) | hq <;> simp [hq]
            · obtain ⟨la, nla, tvs, lot, hv1, hla, hlt, hdl, htv⟩ := hget (Nat.lt_of_le_of_ne hal hc)
              have hc2 : ¬ (at1 : Int) = (lvs.length : Int) := by omega
              have p0 : x ≠ dx := Nat.ne_of_gt a2
              have p1 : oo ≠ dx := Nat.ne_of_gt (Nat.lt_trans a2 a3)
              have p2 : io ≠ dx := Nat.ne_of_gt (Nat.lt_trans a2 (Nat.lt_trans a3 a4))
              have p3 : fo ≠ dx := Nat.ne_of_gt (Nat.lt_trans a2 (Nat.lt_trans a3 a5))
              have p4 : it ≠ dx := (ap (dx, dictOf es n) (by simp)).symm
              have p5 : D2 ≠ dx := Nat.ne_of_gt u1
              have p6 : D1 ≠ dx := Nat.ne_of_gt (Nat.lt_trans u1 u8)
              have p7 : D ≠ dx := Nat.ne_of_gt (Nat.lt_trans u1 (Nat.lt_trans u8 u9))
              have p8 : ∀ q ∈ tl ++ rest, q.1 ≠ dx := fun q hq => (w0 q hq).1
              k_steps
              rename Fr g3 L' _ _ => FE
              rename News g3 L' _ _ => NE
              obtain ⟨IN, eN, nN, e1, e2, e3⟩ := nm_io NE
              subst e1
              rw [← e2, ← e3] at NE
              have hWn : WD eN row' IN oo := by rw [e2]; exact hW'.setInp
              obtain ⟨v0, v1, v2, v3, v4, v5, v6, v7, v8, v9⟩ := (by assumption : dx < IN ∧ x < IN ∧ io < IN ∧ oo < IN ∧ fo < IN ∧ it < IN ∧ D < IN ∧ D1 < IN ∧ D2 < IN ∧ AllLt IN (tl ++ rest))
              have hlt1 : at1 < lots.length := Nat.lt_of_le_of_ne hal hc
              unfold Stop
              refine againW (at1 + 1, outs', row', [] ++ lot, none) _ _ ?_ ⟨g3, _, (dx, dictOf eN nN) :: (x, instObj 152 dx) :: (IN, listOf ([] ++ tvs).toArray 0) :: (oo, listOf ovs1.toArray no') :: (fo, listOf fvs.toArray nf) :: (tl ++ rest), ⟨T3, D3, K3, X3, P3⟩, ?_, Eq.trans (if_neg (by decide)) (Eq.trans (if_neg (by decide)) hMo), FE, gn_more NE, ?_,
                ⟨eN, nN, IN, [] ++ tvs, 0, ovs1, no', fvs, nf, tl, ⟨hWn, hlt, hO', hFo, hfl2, ?_, hrl', ⟨hoa.o, hoa.w⟩, ?_, hlt1, ⟨a1, a2, a3, v3, a5, Nat.ne_of_gt v4, a7, fun q hq => Nat.ne_of_lt (lt_of_allLt v9 q (List.mem_append_left _ hq))⟩, rfl⟩, Eq.trans (if_neg (by decide)) (Eq.trans (if_neg (by decide)) hMan)⟩, hsv.trans ?_⟩
              · show lots.length - (at1 + 1) + 1 < lots.length - at1 + 1
                omega
              · exact (hM.set (by decide) (by decide) (by decide) (by decide) (by decide)).setAt
              · exact gn_ap ap (Nat.ne_of_gt v5) (tl' := []) (fun _ hp => absurd hp List.not_mem_nil)
              · show ovs1.length + 2 * ([] ++ tvs).length + 2 * (lots.drop (at1 + 1)).flatten.length ≤ 200
                have z1 := hO'.length
                have z2 := hlt.length
                have z3 := hI.length
                have z4 := hO2.length
                rw [hask] at f2
                rw [hdl, List.flatten_cons, List.length_append] at hsz2
                simp only [List.length_map, List.length_nil, List.nil_append] at z1 z2 z3 z4 f2 hsz2 ⊢
                omega
              · intro y hy
                exact htx y (List.mem_append_right _ (List.mem_flatten.mpr ⟨lot, List.mem_of_mem_drop (hdl ▸ List.mem_cons_self), hy⟩))
              · rw [servedIs, servedIs, hdl]
                exact serve_more hask
  case fin =>
    rename Fr g' _ _ _ => FX2
    clear FX2 NX hW0 hz1
    rintro g M news h tk ⟨at_, found, outs, row, ins, hT, hM, ⟨es, n, io, ivs, ni, ovs', no, fvs, nf, tl, hS⟩, hg⟩ FM NM
    obtain ⟨hMo0, hMw0, hMf0, hMl0, tka0, hMa0⟩ := (id hM : GNames _ _ _ _ _ _)
    have hnil : os.drop ovs.length = [] := by rw [hO.length]; exact List.drop_length
    rw [hnil, gone] at hg
    dsimp only
    k_steps
    unfold Stop
    refine whl_loopA (s := s) (fun (c : Nat) h => ∃ g M news, GTop w (At none dp un gd env []) base g' env p loose mean mg mb g ∧ GNames Oa x La fo c M ∧ Fr g L' h M ∧ News g L' h news ∧
        ∃ es n io ivs ni ovs' no fvs nf tl ins1, GSt dx x oo fo rest lots c found outs row ins1 ovs.length es n io ivs ni ovs' no fvs nf tl news ∧ ins1 ++ (lots.drop c).flatten = ins ++ (lots.drop at_).flatten)
      (fun c => lots.length - c) ?hE ?turn at_ ?h0
    case hE => first | passes_own | with_unfolding_all passes_own
    case h0 => exact ⟨g, _, news, hT, hM, by assumption, by assumption, es, n, io, ivs, ni, ovs', no, fvs, nf, tl, ins, hS, rfl⟩
    case turn =>
      rename Fr g L' _ _ => FX3
      rename News g L' _ _ => NX3
      clear FX3 NX3 hM hS hMo0 hMw0 hMf0 hMl0 hMa0
      rintro c h1 tk1 AgW QW againW hqW ⟨g1, M1, news1, hT, hM, FM, NM, es, n, io, ivs, ni, ovs', no, fvs, nf, tl, ins1, hS, hin⟩
      obtain ⟨hT1, hD1, hB1, hX1, hP1⟩ := hT
      obtain ⟨hMo1, hMw, hMf, hMl, tka, hMa⟩ := (id hM : GNames _ _ _ _ _ _)
      obtain ⟨hW, hI, hO2, hFo, hfl2, hsz2, hrl, hok, hir, hal, hap, rfl⟩ := hS
      obtain ⟨⟨tr2, hr2⟩, hi2, ho2, hlen2⟩ := (id hW : WD _ _ _ _)
      obtain ⟨a1, a2, a3, a4, a5, a6, a7, a8⟩ := hap
      have hl1 := hL1.length
      have hlz : lvs.length ≤ 1000000 := by omega
      have hLa' : (La, listOf lvs.toArray nL) ∈ tl ++ rest := List.mem_append_right _ hLa
      by_cases hc : c < lots.length
      · obtain ⟨la, nla, tvs, lot, hv1, hla0, hlt, hdl⟩ := hL1.get hc
        have hla : (la, listOf tvs.toArray nla) ∈ tl ++ rest := List.mem_append_right _ hla0
        have htv : tvs.length ≤ 100 := by
          have q := hlt.length
          rw [List.length_map] at q
          rw [q]
          rw [hdl, List.flatten_cons, List.length_append] at hsz2
          omega
        have hc2 : (c : Int) < (lvs.length : Int) := by omega
        have hc3 : ¬ ((lvs.length : Int) ≤ (c : Int)) := by omega
        have p0 : x ≠ dx := Nat.ne_of_gt a2
        have p1 : oo ≠ dx := Nat.ne_of_gt (Nat.lt_trans a2 a3)
        have p2 : io ≠ dx := Nat.ne_of_gt (Nat.lt_trans a2 (Nat.lt_trans a3 a4))
        have p3 : fo ≠ dx := Nat.ne_of_gt (Nat.lt_trans a2 (Nat.lt_trans a3 a5))
        have p8 : ∀ q ∈ tl ++ rest, q.1 ≠ dx := fun p hp => by
          rcases List.mem_append.mp hp with hp | hp
          · exact Nat.ne_of_gt (Nat.lt_trans (Nat.lt_trans a2 (Nat.lt_trans a3 a5)) (a7 p hp))
          · exact Nat.ne_of_lt (a1 p hp)
        k_steps
        rw [decide_eq_true hc2]
        refine WhlIf.yes rfl ?_
        k_steps
        rename Fr g1 L' _ _ => FE
        rename News g1 L' _ _ => NE
        obtain ⟨IN, eN, nN, e1, e2, e3⟩ := nm_io NE
        subst e1
        rw [← e2, ← e3] at NE
        have hWn : WD eN row IN oo := by rw [e2]; exact hW.setInp
        obtain ⟨v0, v1, v2, v3, v4, v9⟩ := (by assumption : dx < IN ∧ x < IN ∧ io < IN ∧ oo < IN ∧ fo < IN ∧ AllLt IN (tl ++ rest))
        unfold Stop
        refine againW (c + 1) _ _ ?_ ⟨g1, _, (dx, dictOf eN nN) :: (x, instObj 152 dx) :: (IN, listOf (ivs ++ tvs).toArray 0) :: (oo, listOf ovs'.toArray no) :: (fo, listOf fvs.toArray nf) :: (tl ++ rest), ⟨hT1, hD1, hB1, hX1, hP1⟩, ?_, FE, gn_last NE,
          eN, nN, IN, ivs ++ tvs, 0, ovs', no, fvs, nf, tl, ins1 ++ lot, ⟨hWn, ?_, hO2, hFo, hfl2, ?_, hrl, hok, ?_, hc, ⟨a1, a2, a3, v3, a5, Nat.ne_of_gt v4, a7, fun q hq => Nat.ne_of_lt (lt_of_allLt v9 q (List.mem_append_left _ hq))⟩, rfl⟩, ?_⟩
        · omega
        · exact hM.setAt
        · rw [List.map_append]; exact hI.append hlt
        · rw [hdl, List.flatten_cons, List.length_append] at hsz2
          have z2 := hlt.length
          rw [List.length_map] at z2
          rw [List.length_append]
          omega
        · intro y hy
          rcases List.mem_append.mp hy with hy | hy
          · exact hir y hy
          · exact htx y (List.mem_append_right _ (List.mem_flatten.mpr ⟨lot, List.mem_of_mem_drop (hdl ▸ List.mem_cons_self), hy⟩))
        · rw [← hin, hdl, List.flatten_cons, List.append_assoc]
      · have hc2 : ¬ (c : Int) < (lvs.length : Int) := by omega
        have hc3 : (lvs.length : Int) ≤ (c : Int) := by omega
        k_steps
        rw [decide_eq_false hc2]
        show wpAny _ _ _ _ _ _
        k_steps
        refine hqW _ _ ?_
        dsimp only
        k_steps
        rename Fr h₀ L _ _ => Fh
        rename News h₀ L _ _ => Nh
        obtain ⟨T, E, E1, E2, t1, e1, e2, e3, e4, e5⟩ := nm_ret Nh
        subst e1 e2 e3 e4 e5
        obtain ⟨v0, v1, v2, v3, v4, v9⟩ := (by assumption : dx < E2 ∧ x < E2 ∧ io < E2 ∧ oo < E2 ∧ fo < E2 ∧ AllLt E2 (tl ++ rest))
        have hlast := (by assumption : E < T ∧ _).1
        obtain ⟨c1, c2⟩ := gone_ret (t := t1) (row := row) (nf := nf) (outs := outs) (ins := ins1) (ivs := ivs) ⟨a1, a2, a3, a4, a5, a6, a7, a8⟩ hFo hI hO2 v9 (by assumption) (by assumption) hlast
        refine post _ _ _ _ ?_ Fh (Nh.perm ?_) c2
        · rw [hg, ← hin, List.drop_eq_nil_of_le (Nat.le_of_not_lt hc)]
          rw [List.flatten_nil, List.append_nil]
          exact c1
        · intro q hq
          simp only [retL, List.mem_append, List.mem_cons] at hq ⊢
          rcases hq with (hq | hq | hq | hq | hq | hq) | hq <;> simp [hq]
end
theorem wd_A_24 : True := by
  k_with_none
  k_with "exec While" => (k_here; k_dflt (refine stop_while ?_))
  k_with "exec While BoolOp" => (k_here; k_dflt (refine stop_while ?_))
  k_with "exec While Compare" => (k_here; k_dflt (refine stop_while ?_))
  k_with "TurnEnd" => (dsimp only [TurnEnd])
  k_with "eval Name" => (k_here; k_dflt (refine' ld ?w9k1 ?w9k2 ?_; (case w9k1 => k_asm); (case w9k2 => (repeat refine Eq.trans (if_neg (by decide)) ?_); first | assumption | exact if_pos rfl); k_whole))
  k_with "loadName" => (k_here; k_dflt (refine' ldn ?w9k1 ?w9k2 ?_; (case w9k1 => k_asm); (case w9k2 => (repeat refine Eq.trans (if_neg (by decide)) ?_); first | assumption | exact if_pos rfl); k_whole))
  k_with "exec While Name" => (k_here; k_dflt (refine stop_while ?_))
  k_with "exec While Name cons nil" => (k_here; k_dflt (refine stop_while ?_))
  k_with "last exec While" => (k_here; k_dflt (refine stop_while ?_))
  k_with "exec For" => (k_here; k_dflt (refine stop_for ?_))
  k_with "exec For Tuple" => (k_here; k_dflt (refine stop_for ?_))
  k_with "exec For Tuple Call" => (k_here; k_dflt (refine stop_for ?_))
  k_with "exec For Tuple Call cons nil" => (k_here; k_dflt (refine stop_for ?_))
  k_with "exec For Name" => (k_here; k_dflt (refine stop_for ?_))
  k_with "exec For Name Name" => (k_here; k_dflt (refine stop_for ?_))
  k_with "exec For Name Name cons nil" => (k_here; k_dflt (refine stop_for ?_))
  k_with "exec For Name Call" => (k_here; k_dflt (refine stop_for ?_))
  k_with "exec For Name Call cons nil" => (k_here; k_dflt (refine stop_for ?_))
  k_with "call builtin:len" => (k_here; (with_reducible show wpAny _ _ (call (Value.builtin "len") [Value.ref _]) _ _ _); k_dflt (refine' len_led ?w9N ?w9m ?w9z ?_; (case w9N => k_asm); (case w9m => k_mem); (case w9z => omega); k_whole))
  k_with "call builtin:list.pop" => (k_here; (with_reducible show wpAny _ _ (call (Value.builtin _) [Value.ref _, Value.int _ _]) _ _ _); k_dflt (refine' pop_first ?w9F ?w9N ?w9U ?w9z ?_; (case w9F => k_asm); (case w9N => k_asm); (case w9U => k_upd); (case w9z => omega); k_whole); (intro h_w F_w N_w); (try k_sweep))
  k_with "leaving ref" => (k_here; first
      | (refine' leave_raiseS ?w9k1 ?w9k0 ?w9k2 ?w9k3 ?_; (case w9k0 => first | assumption | exact Heap.MadeExc.of (by assumption)); (case w9k2 => assumption); (case w9k1 => assumption); (case w9k3 => k_asm); k_whole; intro h_w t_w S_w R_w U_w; (try dsimp only at S_w R_w U_w ⊢))
      | (refine' leave_onS ?w9k1 ?w9k2 ?w9k3 ?w9k4 ?_; (case w9k3 => assumption); (case w9k1 => assumption); (case w9k4 => assumption); (case w9k2 => assumption); k_whole; intro h_w S_w R_w U_w; (try dsimp only at S_w R_w U_w ⊢)))
  k_with "call ref" => (k_here; (with_reducible show wpAny _ _ (call (Value.ref 71) _) _ _ _); refine wpAny_call ?_; k_dflt (refine' blank_end_spec ⟨?w9hB, ?w9hF, ?w9hX, ?w9hT, ?w9hf, ?w9hk⟩ ?w9hN ?w9hd ?w9hx ?w9h0 ?w9h1 ?_; (case w9hF => k_asm); (case w9hB => k_asm); (case w9hX => k_asm); (case w9hT => k_asm); (case w9hf => first | exact rfl | assumption); (case w9hk => first | exact rfl | assumption); (case w9hN => k_asm); (case w9hd => k_room); (case w9hx => first | assumption | omega); (case w9h0 => omega); (case w9h1 => omega); k_whole); intro tk_w tk_w_w h_w F_w N_w; (try k_sweep))
  k_with "call ref" => (k_here; (with_reducible show wpAny _ _ (call (Value.ref 78) _) _ _ _); refine wpAny_call ?_; k_dflt (refine' quoted_field_spec ⟨?w9hB, ?w9hF, ?w9hX, ?w9hT, ?w9hf, ?w9hk⟩ ?w9hN ?w9hd ?w9hx ?w9h0 ?w9h1 ?_; (case w9hF => k_asm); (case w9hB => k_asm); (case w9hX => k_asm); (case w9hT => k_asm); (case w9hf => first | exact rfl | assumption); (case w9hk => first | exact rfl | assumption); (case w9hN => k_asm); (case w9hd => k_room); (case w9hx => first | assumption | omega); (case w9h0 => omega); (case w9h1 => first | omega | exact slice_quote (by omega) (by assumption)); k_whole); intro D_w t1_w t2_w tk_w_w h_w hq_w l1_w F_w N_w; (try k_lt l1_w); (try k_sweep))
  k_with "call ref" => (k_here; (with_reducible show wpAny _ _ (call (Value.ref 85) _) _ _ _); refine wpAny_call ?_; k_dflt (refine' field_at_spec ⟨?w9hB, ?w9hF, ?w9hX, ?w9hT, ?w9hf, ?w9hk⟩ ?w9hN ?w9hd ?w9hx ?w9h0 ?w9h1 ?_; (case w9hF => k_asm); (case w9hB => k_asm); (case w9hX => k_asm); (case w9hT => k_asm); (case w9hf => first | exact rfl | assumption); (case w9hk => first | exact rfl | assumption); (case w9hN => k_asm); (case w9hd => k_room); (case w9hx => first | assumption | omega); (case w9h0 => omega); (case w9h1 => omega); k_whole); intro D_w v_w t2_w tk_w_w h_w ho_w l1_w F_w N_w; (try k_lt l1_w); (try k_sweep); ((rcases optV_cases ho_w with ⟨e_w, ev_w⟩ | ⟨y_w, t_w, e_w, ev_w⟩) <;> subst ev_w))
  k_with "call ref" => (k_here; (with_reducible show wpAny _ _ (call (Value.ref 92) _) _ _ _); refine wpAny_call ?_; k_dflt (refine' told_fields_spec ⟨?w9hB, ?w9hF, ?w9hX, ?w9hT, ?w9hf, ?w9hk⟩ ?w9hN ?w9hd ?w9hx ?_; (case w9hF => k_asm); (case w9hB => k_asm); (case w9hX => k_asm); (case w9hT => k_asm); (case w9hf => first | exact rfl | assumption); (case w9hk => first | exact rfl | assumption); (case w9hN => k_asm); (case w9hd => k_room); (case w9hx => first | assumption | omega); k_whole); intro v_w tk_w_w h_w ho_w F_w; (try k_sweep); ((rcases told_cases ho_w with ⟨e_w, ev_w, N_w⟩ | ⟨fs_w, l_w, vs_w, n_w, tl_w, e_w, ev_w, D_w, N_w, l1_w, l2_w, lf_w, ll_w, lv_w⟩) <;> subst ev_w <;> clear ho_w))
  k_with "call ref" => (k_here; (with_reducible show wpAny _ _ (call (Value.ref 180) _) _ _ _); refine wpAny_call ?_; k_dflt (refine' number_spec ⟨?w9hB, ?w9hF, ?w9hX, ?w9hT, ?w9hf, ?w9hk⟩ ?w9hN ?w9hd ?w9hu ?w9hx ?w9ho ?_; (case w9hF => k_asm); (case w9hB => k_asm); (case w9hX => k_asm); (case w9hT => k_asm); (case w9hf => first | exact rfl | assumption); (case w9hk => first | exact rfl | assumption); (case w9hN => k_asm); (case w9hd => k_room); (case w9hu => (dsimp only [Around.deeper, Around.in1, Around.mark]; omega)); (case w9hx => first | assumption | omega); (case w9ho => assumption); k_whole); intro v_w tk_w_w h_w ho_w N_w F_w; (try k_sweep))
  k_with "call ref" => (k_here; (with_reducible show wpAny _ _ (call (Value.ref 99) _) _ _ _); refine wpAny_call ?_; k_dflt (refine' value_spec ⟨?w9hB, ?w9hF, ?w9hX, ?w9hT, ?w9hf, ?w9hk⟩ ?w9hN ?w9hd ?w9hu ?w9hx ?w9ho ?_; (case w9hF => k_asm); (case w9hB => k_asm); (case w9hX => k_asm); (case w9hT => k_asm); (case w9hf => first | exact rfl | assumption); (case w9hk => first | exact rfl | assumption); (case w9hN => k_asm); (case w9hd => k_room); (case w9hu => (dsimp only [Around.deeper, Around.in1, Around.mark]; omega)); (case w9hx => first | assumption | omega); (case w9ho => assumption); k_whole); intro v_w tk_w_w h_w ho_w N_w F_w; (try k_sweep); ((rcases value_three ho_w with ⟨e_w, ev_w⟩ | ⟨y_w, t_w, e_w, ev_w⟩ | ⟨i_w, t_w, e_w, ev_w⟩) <;> subst ev_w))
  k_with "call ref" => (k_here; (with_reducible show wpAny _ _ (call (Value.ref 106) _) _ _ _); refine wpAny_call ?_; k_dflt (refine' fitted_spec ⟨?w9hB, ?w9hF, ?w9hX, ?w9hT, ?w9hf, ?w9hk⟩ ?w9hN ?w9hd ?w9hu ?w9hx ?w9ho ?w9hK ?w9hks ?w9hkl ?_; (case w9hF => k_asm); (case w9hB => k_asm); (case w9hX => k_asm); (case w9hT => k_asm); (case w9hf => first | exact rfl | assumption); (case w9hk => first | exact rfl | assumption); (case w9hN => k_asm); (case w9hd => k_room); (case w9hu => (dsimp only [Around.deeper, Around.in1, Around.mark]; omega)); (case w9hx => first | assumption | omega); (case w9ho => assumption); (case w9hK => k_mem); (case w9hks => assumption); (case w9hkl => assumption); k_whole); intro v_w tk_w_w h_w ho_w F_w; (try k_sweep); ((rcases fit_cases ho_w with ⟨e_w, ev_w, N_w⟩ | ⟨ds_w, l_w, vs_w, n_w, e_w, ev_w, D_w, N_w, l1_w⟩) <;> subst ev_w <;> clear ho_w))
  k_with "setAttr ref" => (k_here; k_dflt (refine' set_dict ?w9k1 ?w9k2 ?w9k3 ?w9k4 ?w9k5 ?w9k6 ?w9k7 ?w9k8 ?w9k9 ?w9k10 ?w9k11 ?w9k12 ?w9k13 ?_; (case w9k1 => k_asm); (case w9k2 => k_asm); (case w9k3 => k_asm); (case w9k4 => k_inst); (case w9k5 => exact rfl); (case w9k6 => k_is); (case w9k7 => k_is); (case w9k8 => k_is); (case w9k9 => k_is); (case w9k10 => k_get); (case w9k11 => exact rfl); (case w9k12 => k_upd); (case w9k13 => (repeat rw [putL_len (by k_get)]); omega); k_whole; intro h_w F_w N_w; (try k_sweep)))
  k_with "call builtin:len" => (k_here; (with_reducible show wpAny _ _ (call (Value.builtin "len") [Value.ref _]) _ _ _); k_dflt (first | (refine' len_ledC ?w9N ?w9m ?w9z ?_; (case w9N => k_asm); (case w9m => k_mem); (case w9z => omega); k_whole) | (refine' len_ledN ?w9N ?w9m ?_; (case w9N => k_asm); (case w9m => k_mem); k_whole)))
  k_with "call ref" => (k_here; (with_reducible show wpAny _ _ (call (Value.ref 120) _) _ _ _); refine wpAny_call ?_; k_dflt (refine' prompt_spec ⟨?w9hB, ?w9hF, ?w9hX, ?w9hT, ?w9hf, ?w9hk⟩ ?w9hN ?w9hd ?w9hW ?w9hO ?w9hol ?w9hp ?w9hpl ?w9hrl ?w9d1 ?w9d2 ?w9d3 ?w9d5 ?w9d6 ?w9r1 ?w9r2 ?_; (case w9hF => k_asm); (case w9hB => k_asm); (case w9hX => k_asm); (case w9hT => k_asm); (case w9hf => first | exact rfl | assumption); (case w9hk => first | exact rfl | assumption); (case w9hN => k_asm); (case w9hd => k_room); (case w9hW => assumption); (case w9hO => assumption); (case w9hol => omega); (case w9hp => assumption); (case w9hpl => assumption); (case w9hrl => assumption); (case w9d1 => assumption); (case w9d2 => assumption); (case w9d3 => assumption); (case w9d5 => assumption); (case w9d6 => assumption); (case w9r1 => assumption); (case w9r2 => assumption); k_whole); intro es_w n_w ovs_w no_w tk_w_w h_w hW_w hO_w hl_w F_w N_w; (try k_sweep); (obtain ⟨⟨tr_w, hr_w⟩, hi_w, ho_w, hlen_w⟩ := (id hW_w)))
  k_with "call ref" => (k_here; (with_reducible show wpAny _ _ (call (Value.ref 134) _) _ _ _); refine wpAny_call ?_; k_dflt (first
      | (refine' ask_line_wait ⟨?w9hB, ?w9hF, ?w9hX, ?w9hT, ?w9hf, ?w9hk⟩ ?w9hN ?w9hd ?w9hW ?_; (case w9hF => k_asm); (case w9hB => k_asm); (case w9hX => k_asm); (case w9hT => k_asm); (case w9hf => first | exact rfl | assumption); (case w9hk => first | exact rfl | assumption); (case w9hN => k_asm); (case w9hd => k_room); (case w9hW => assumption); k_whole; intro e_w t_w tk_w_w h_w g2_w FG2_w U2_w R2_w; (try dsimp only))
      | (refine' ask_line_spec ⟨?w9hB, ?w9hF, ?w9hX, ?w9hT, ?w9hf, ?w9hk⟩ ?w9hN ?w9hd ?w9hW ?w9hrr ?w9hil ?w9hO ?w9hol ?w9hp ?w9hpl ?w9hrl ?w9d1 ?w9d2 ?w9d3 ?w9d4 ?w9d5 ?w9d6 ?w9r1 ?w9r2 ?w9r3 ?_; (case w9hF => k_asm); (case w9hB => k_asm); (case w9hX => k_asm); (case w9hT => k_asm); (case w9hf => first | exact rfl | assumption); (case w9hk => first | exact rfl | assumption); (case w9hN => k_asm); (case w9hd => k_room); (case w9hW => assumption); (case w9hrr => assumption); (case w9hil => omega); (case w9hO => assumption); (case w9hol => omega); (case w9hp => assumption); (case w9hpl => assumption); (case w9hrl => assumption); (case w9d1 => assumption); (case w9d2 => assumption); (case w9d3 => assumption); (case w9d4 => assumption); (case w9d5 => assumption); (case w9d6 => assumption); (case w9r1 => assumption); (case w9r2 => assumption); (case w9r3 => assumption); k_whole; intro es_w n_w ovs_w no_w tk_w_w h_w hW_w hO_w hl_w F_w N_w; (try dsimp only)); (try k_sweep)))
  k_with "call ref" => (k_here; (with_reducible show wpAny _ _ (call (Value.ref 127) _) _ _ _); refine wpAny_call ?_; k_dflt (refine' ask_values_spec ⟨?w9hB, ?w9hF, ?w9hX, ?w9hT, ?w9hf, ?w9hk⟩ ?w9hN ?w9hd ?w9hu ?w9hW ?w9hI ?w9hir ?w9hO ?w9hol ?w9hp ?w9hpl ?w9hrl ?w9hK ?w9hks ?w9hkl ?w9d1 ?w9d2 ?w9d3 ?w9d4 ?w9d5 ?w9d6 ?w9r1 ?w9r2 ?w9r3 (fun ds_w outs_w row_w ins_w h_w tk_w l_w vs_w nl_w es_w n_w ivs_w ni_w ovs_w no_w e_w hW_w hI_w hO_w hol_w hds_w F_w N_w l1_w l2_w l3_w l4_w l5 => ?_) (fun outs_w row_w h_w tk_w e_w t_w es_w n_w ivs_w ni_w ovs_w no_w g2_w ee_w hW_w hI_w hO_w hol_w hrl_w FG2_w U2_w R2_w => ?_); (case w9hF => k_asm); (case w9hB => k_asm); (case w9hX => k_asm); (case w9hT => k_asm); (case w9hf => first | exact rfl | assumption); (case w9hk => first | exact rfl | assumption); (case w9hN => k_asm); (case w9hd => k_room); (case w9hu => (dsimp only [Around.deeper, Around.in1, Around.mark]; omega)); (case w9hW => assumption); (case w9hI => assumption); (case w9hir => assumption); (case w9hO => assumption); (case w9hol => omega); (case w9hp => assumption); (case w9hpl => assumption); (case w9hrl => assumption); (case w9hK => k_mem); (case w9hks => assumption); (case w9hkl => assumption); (case w9d1 => assumption); (case w9d2 => assumption); (case w9d3 => assumption); (case w9d4 => assumption); (case w9d5 => assumption); (case w9d6 => assumption); (case w9r1 => assumption); (case w9r2 => assumption); (case w9r3 => assumption); (try dsimp only); (try k_sweep)))
  k_with "subscriptTail Name Slice ref ref" => (k_here; (with_reducible show wpAny _ _ (subscriptTail _ (PySem.Expr.Slice _ _ none _) (Value.ref _) (Value.ref _)) _ _ _); k_dflt (refine' kms_slice_lit ?w9F ?w9N ?w9l ?w9p ?w9q ?w9e ?_ ?w9s ?w9t ?w9z; (case w9F => k_asm); (case w9N => k_asm); (case w9l => kmk_list); (case w9p => kmk_part); (case w9q => kmk_part); (case w9e => first | exact pick_all _ | exact pick_first _ | exact pick_rest _ | exact pick_init _); (case w9s => with_unfolding_all rfl); (case w9t => kmk_pure); (case w9z => rw [List.size_toArray, sizeLine_eq]; omega)); intro D_w h_w F_w N_w l1_w; (try k_lt l1_w); (try k_sweep))
  k_with "call ref" => (k_here; (with_reducible show wpAny _ _ (call (Value.ref 194) _) _ _ _); refine wpAny_call ?_; k_dflt (refine' state_spec ⟨?w9hB, ?w9hF, ?w9hX, ?w9hT, ?w9hf, ?w9hk⟩ ?w9hN ?w9hd ?w9hW ?w9hI ?w9hO ?w9hol ?w9hil ?_; (case w9hF => k_asm); (case w9hB => k_asm); (case w9hX => k_asm); (case w9hT => k_asm); (case w9hf => first | exact rfl | assumption); (case w9hk => first | exact rfl | assumption); (case w9hN => k_asm); (case w9hd => k_room); (case w9hW => assumption); (case w9hI => assumption); (case w9hO => assumption); (case w9hol => omega); (case w9hil => omega); k_whole); intro D_w D1_w D2_w t_w h_w tk_w q1_w q2_w q3_w F_w N_w; (try simp only [AllLt] at q3_w); (try k_sweep))
  k_with "call ref" => (k_here; (with_reducible show wpAny _ _ (call (Value.ref 152) _ _) _ _ _); k_dflt (refine' world_spec ⟨?w9hB, ?w9hF, ?w9hX, ?w9hT, ?w9hf, ?w9hk⟩ ?w9hN ?w9hd ?_; (case w9hF => k_asm); (case w9hB => k_asm); (case w9hX => k_asm); (case w9hT => k_asm); (case w9hf => first | exact rfl | assumption); (case w9hk => first | exact rfl | assumption); (case w9hN => k_asm); (case w9hd => k_room); k_whole); intro dx_w x_w io_w oo_w es_w n_w tk_w h_w hW_w q1_w q2_w q3_w q4_w F_w N_w; (try k_sweep); (obtain ⟨⟨tr_w, hr_w⟩, hi_w, ho_w, hlen_w⟩ := (id hW_w)))
  trivial
theorem off_Od0 : True := by
  w_top off
  trivial
section
variable {w : World} {hd : Option Value} {dp un : Nat} {gd : Option (List Code)} {env : Env} {outer : List Env} {A₀ : Around} {base h₀ : Heap} {L : Addr} {m : Str → Option Value}
    {p : Program} {loose : List Str} {mean : ExcName → Option Value} {mg mb : Str → Option Value} {s : Shared} {R : Result → Shared → Prop}
    {rest : List (Addr × Obj)}
theorem news_front1 {g h : Heap} {L : Addr} {a b x : Addr × Obj} {r : List (Addr × Obj)} (N : News g L h (x :: a :: b :: r)) : News g L h (a :: b :: x :: r) := N.perm (by
  intro p hp; simp only [List.mem_cons] at hp ⊢; rcases hp with hp | hp | hp | hp <;> simp [hp])
theorem news_front5 {g h : Heap} {L : Addr} {a b x y z u v : Addr × Obj} {r : List (Addr × Obj)} (N : News g L h (x :: y :: z :: u :: v :: a :: b :: r)) : News g L h (a :: b :: x :: y :: z :: u :: v :: r) := N.perm (by
  intro p hp; simp only [List.mem_cons] at hp ⊢; rcases hp with hp | hp | hp | hp | hp | hp | hp | hp <;> simp [hp])
theorem int_five {r : Int} (h0 : 0 ≤ r) (h1 : r < 5) : r = 0 ∨ r = 1 ∨ r = 2 ∨ r = 3 ∨ r = 4 := by
  obtain ⟨n, rfl⟩ := Int.eq_ofNat_of_zero_le h0
  exact (by decide : ∀ n : Nat, n < 5 → ((n : Int) = 0 ∨ (n : Int) = 1 ∨ (n : Int) = 2 ∨ (n : Int) = 3 ∨ (n : Int) = 4)) n (Int.ofNat_lt.mp h1)
theorem int_three {r : Int} (h0 : 0 ≤ r) (h1 : r < 3) : r = 0 ∨ r = 1 ∨ r = 2 := by
  obtain ⟨n, rfl⟩ := Int.eq_ofNat_of_zero_le h0
  exact (by decide : ∀ n : Nat, n < 3 → ((n : Int) = 0 ∨ (n : Int) = 1 ∨ (n : Int) = 2)) n (Int.ofNat_lt.mp h1)
theorem kinds_pick {g h : Heap} {L A1 A2 A3 A4 : Nat} {p5 : Addr × Obj} {t1 t2 t3 t4 t5 t6 : Tok} {n1 n2 n3 n4 : Nat} {rr : List (Addr × Obj)}
    (_N : News g L h (p5 :: (A4, listOf #[.str (Str.ofString "text") t5, .str (Str.ofString "decimal") t6] n4) :: (A3, listOf #[.str (Str.ofString "whole") t3, .str (Str.ofString "text") t4] n3) :: (A2, listOf #[.str (Str.ofString "text") t2] n2) :: (A1, listOf #[.str (Str.ofString "whole") t1] n1) :: rr)) {r : Int} (h0 : 0 ≤ r) (h1 : r < 5) :
    ∃ kv ko, [Value.ref A1, .ref A2, .ref A3, .ref A4, .none][r.toNat]? = some kv ∧
      KindsIn [(A4, listOf #[.str (Str.ofString "text") t5, .str (Str.ofString "decimal") t6] n4), (A3, listOf #[.str (Str.ofString "whole") t3, .str (Str.ofString "text") t4] n3), (A2, listOf #[.str (Str.ofString "text") t2] n2), (A1, listOf #[.str (Str.ofString "whole") t1] n1)] kv ko := by
  rcases int_five h0 h1 with rfl | rfl | rfl | rfl | rfl
  · exact ⟨_, some [Str.ofString "whole"], rfl, A1, [_], n1, rfl, by k_mem, .one (.str _ _), by decide⟩
  · exact ⟨_, some [Str.ofString "text"], rfl, A2, [_], n2, rfl, by k_mem, .one (.str _ _), by decide⟩
  · exact ⟨_, some [Str.ofString "whole", Str.ofString "text"], rfl, A3, [_, _], n3, rfl, by k_mem, .cons (.str _ _) (.one (.str _ _)), by decide⟩
  · exact ⟨_, some [Str.ofString "text", Str.ofString "decimal"], rfl, A4, [_, _], n4, rfl, by k_mem, .cons (.str _ _) (.one (.str _ _)), by decide⟩
  · exact ⟨_, none, rfl, rfl⟩
theorem prompt_pick {g h : Heap} {L P0 n0 : Nat} {r : Int} {t1 t2 : Tok} {rr : List (Addr × Obj)} (_N : News g L h ((P0, listOf #[.str (Str.ofString "") t1, .str (Str.ofString "N") t2, .none] n0) :: rr)) (h0 : 0 ≤ r) (h1 : r < 3) :
    ∃ pv po, [Value.str (Str.ofString "") t1, .str (Str.ofString "N") t2, .none][r.toNat]? = some pv ∧ OptV po pv ∧ ∀ y, po = some y → y.length ≤ 100 ∧ PyData.strOk y = true := by
  rcases int_three h0 h1 with rfl | rfl | rfl
  · exact ⟨_, some (Str.ofString ""), rfl, ⟨_, rfl⟩, fun y e => by cases e; decide +kernel⟩
  · exact ⟨_, some (Str.ofString "N"), rfl, ⟨_, rfl⟩, fun y e => by cases e; decide +kernel⟩
  · exact ⟨_, none, rfl, rfl, fun y e => by cases e⟩
theorem item_at {prog : Program} {w : World} {A : Around} {E : Value → Shared → Prop} {s : Shared} {value slice : PySem.Expr} {a : Addr} {l : List Value} {k : Int} {u : Tok} {x : Value} {Q : Value → Shared → Prop} (hl : s.heap.IsList a l.toArray)
    (h0 : 0 ≤ k) (hfit : k < 2 ^ 63) (hx : l[k.toNat]? = some x) (h : Q x s)
    (hs : subscripted slice false (.ref a) (.int k u) = operate [.ref a, .int k u] (getItem (.ref a) (.int k u)) := by with_unfolding_all rfl) :
    wpAny (model prog w) A (subscriptTail value slice (.ref a) (.int k u)) Q E s := tail_any hl.typeIs slot_list_getitem.lookup (wpAny_getItem_list hl h0 hfit (by simpa using hx) h) hs
theorem nm_5 {g h : Heap} {L a b c d e x y : Addr} {o1 o2 o3 o4 o5 o6 o7 : Obj} {r : List (Addr × Obj)} (_N : News g L h ((a, o1) :: (b, o2) :: (c, o3) :: (d, o4) :: (e, o5) :: (x, o6) :: (y, o7) :: r)) : ∃ (a' b' c' d' e' : Nat), a' = a ∧ b' = b ∧ c' = c ∧ d' = d ∧ e' = e := ⟨_, _, _, _, _, rfl, rfl, rfl, rfl, rfl⟩
theorem nm_top {g h : Heap} {L a : Addr} {k v b : Value} {c : Nat} {r : List (Addr × Obj)} (_N : News g L h ((a, { cls := .type "tuple", data := .seq #[k, v, b] c }) :: r)) : ∃ x : Nat, x = a := ⟨_, rfl⟩
theorem order_more {g h : Heap} {L : Addr} {po pw ps p1 p5 p4 p3 p2 p0 : Addr × Obj} {r : List (Addr × Obj)} (N : News g L h (po :: pw :: ps :: p1 :: p5 :: p4 :: p3 :: p2 :: p0 :: r)) : News g L h (pw :: ps :: ([po, p1, p5, p4, p3, p2, p0] ++ r)) := N.perm (by
  intro q hq
  simp only [List.mem_cons, List.cons_append, List.nil_append] at hq ⊢
  rcases hq with hq | hq | hq | hq | hq | hq | hq | hq | hq | hq <;> simp [hq])
theorem wd_A_25 : True := by
  k_with "call ref" => (k_here; (with_reducible show wpAny _ _ (call (Value.ref 163) _) _ _ _); refine stop_any ?_)
  k_with "subscriptTail" => (k_here; (with_reducible show wpAny _ _ (subscriptTail _ _ (Value.ref _) (Value.int _ _)) _ _ _); refine stop_any ?_)
  k_with "subscriptTail List" => (k_here; (with_reducible show wpAny _ _ (subscriptTail _ _ (Value.ref _) (Value.int _ _)) _ _ _); refine stop_any ?_)
  trivial
theorem order_spec {W S : Nat} {i : Int} {tk n c : Nat} {vs : Array Value} {ns : List Int}
    (H : Here w A₀ base outer h₀ L m p loose mean mg mb env s)
    (N : News h₀ L s.heap ((W, listOf #[.ref S, .int i tk] n) :: (S, listOf vs c) :: rest))
    (hdp : dp + 20 < recursionLimit)
    (hI : IntsAre vs.toList ns) (hns : ns.length ≤ 100) (hi : 0 ≤ i) (hi2 : i < 900) (hWS : W ≠ S) (hW : ∀ p ∈ rest, p.1 ≠ W)
    (post : ∀ (O cc : Nat) (kv pv : Value) (o : Ord) (more : List (Addr × Obj)) tk' h' tk'', (O, ({ cls := .type "tuple", data := .seq #[kv, pv, .bool o.b] cc } : Obj)) ∈ more → KindsIn more kv o.ks → OptV o.po pv → (∀ y, o.po = some y → y.length ≤ 100 ∧ PyData.strOk y = true) →
      (∀ q ∈ more, W < q.1 ∧ S < q.1 ∧ ∀ p ∈ rest, p.1 < q.1) → Fr h₀ L h' m → News h₀ L h' ((W, listOf #[.ref S, .int (i + 1 + 1 + 1) tk'] n) :: (S, listOf vs c) :: (more ++ rest)) → R (.ok (.ret (.ref O))) { s with heap := h', toks := tk'' }) :
    codeAny (model Challenge.rw_sm0001_01.row.prog w) (At none dp un gd env outer) (.call (.ref 170) ⟨[.ref W], []⟩) R s := by
  obtain ⟨B, F, X, T, hf, hke⟩ := H
  refine' code_def (A := At none dp un gd env outer) (env := env) (outer := outer) B F X N T rfl hf hke ?k6 ?k7 ?hroom ?k9 ?kB ?_ ?c2 ?c3 ?c4 ?c5
  case k6 => k_dflt k_is
  case k7 => k_dflt k_is
  case hroom => k_room
  case k9 => exact BindsTo.of_eq rfl
  case c5 => decide
  case kB => exact locs rfl
  case c2 => exact rfl
  case c3 => exact rfl
  case c4 => exact rfl
  intro g' L' h' FG' F' N' B' X' T'
  dsimp only
  k_fold
  k_steps
  rename News g' L' _ _ => NX
  obtain ⟨A5, A4, A3, A2, A1, e5, e4, e3, e2, e1⟩ := nm_5 NX
  subst e1 e2 e3 e4 e5
  obtain ⟨u1, v1, y1⟩ := (by assumption : W < A1 ∧ S < A1 ∧ AllLt A1 rest)
  obtain ⟨-, u2, v2, y2⟩ := (by assumption : A1 < A2 ∧ W < A2 ∧ S < A2 ∧ AllLt A2 rest)
  obtain ⟨-, -, u3, v3, y3⟩ := (by assumption : A2 < A3 ∧ A1 < A3 ∧ W < A3 ∧ S < A3 ∧ AllLt A3 rest)
  obtain ⟨-, -, -, u4, v4, y4⟩ := (by assumption : A3 < A4 ∧ A2 < A4 ∧ A1 < A4 ∧ W < A4 ∧ S < A4 ∧ AllLt A4 rest)
  obtain ⟨-, -, -, -, u5, v5, y5⟩ := (by assumption : A4 < A5 ∧ A3 < A5 ∧ A2 < A5 ∧ A1 < A5 ∧ W < A5 ∧ S < A5 ∧ AllLt A5 rest)
  have hA : ∀ q : Nat × Obj, (q.1 = A5 ∨ q.1 = A4 ∨ q.1 = A3 ∨ q.1 = A2 ∨ q.1 = A1) → W < q.1 ∧ S < q.1 ∧ ∀ p ∈ rest, p.1 < q.1 := by
    rintro ⟨q, o⟩ (rfl | rfl | rfl | rfl | rfl)
    · exact ⟨u5, v5, lt_of_allLt y5⟩
    · exact ⟨u4, v4, lt_of_allLt y4⟩
    · exact ⟨u3, v3, lt_of_allLt y3⟩
    · exact ⟨u2, v2, lt_of_allLt y2⟩
    · exact ⟨u1, v1, lt_of_allLt y1⟩
  have NY := news_front5 NX
  rename Fr g' L' _ _ => FX
  unfold Stop
  refine wpAny_call ?_
  k_dflt (refine' given_spec (i := i) ⟨?hB, FX, ?hX, ?hT, ?hf, ?hk⟩ NY ?hd hI hns ?h0 ?h1 ?hm ?hm2 hWS ?hW ?zz)
  case hB => k_asm
  case hX => k_asm
  case hT => k_asm
  case hf => exact rfl
  case hk => exact rfl
  case hd => k_room
  case h0 => omega
  case h1 => omega
  case hm => decide
  case hm2 => decide
  case hW =>
    intro q hq
    simp only [List.mem_cons] at hq
    rcases hq with rfl | rfl | rfl | rfl | rfl | hq
    · exact Nat.ne_of_gt u5
    · exact Nat.ne_of_gt u4
    · exact Nat.ne_of_gt u3
    · exact Nat.ne_of_gt u2
    · exact Nat.ne_of_gt u1
    · exact hW q hq
  intro r tr tk2 tk3 h2 r0 r1 F2 N2
  obtain ⟨kv, ko, hkv, hK⟩ := kinds_pick NX r0 r1
  clear NX NY FX
  dsimp only
  k_steps
  rename News g' L' _ _ => NX
  unfold Stop
  refine item_at (l := [Value.ref A1, .ref A2, .ref A3, .ref A4, .none]) (NX.isList (by k_mem)) r0 (by omega) hkv ?_
  k_steps
  rename News g' L' _ _ => NX
  have NY := news_front1 NX
  rename Fr g' L' _ _ => FX
  obtain ⟨P0, e0⟩ := nm_first NX
  subst e0
  obtain ⟨u6, v6, -, -, -, -, -, y6⟩ := (by assumption : W < P0 ∧ S < P0 ∧ A5 < P0 ∧ A4 < P0 ∧ A3 < P0 ∧ A2 < P0 ∧ A1 < P0 ∧ AllLt P0 rest)
  unfold Stop
  refine wpAny_call ?_
  k_dflt (refine' given_spec (i := i + 1) ⟨?hB, FX, ?hX, ?hT, ?hf, ?hk⟩ NY ?hd hI hns ?h0 ?h1 ?hm ?hm2 hWS ?hW ?zz2)
  case hB => k_asm
  case hX => k_asm
  case hT => k_asm
  case hf => exact rfl
  case hk => exact rfl
  case hd => k_room
  case h0 => omega
  case h1 => omega
  case hm => decide
  case hm2 => decide
  case hW =>
    intro q hq
    simp only [List.mem_cons] at hq
    rcases hq with rfl | rfl | rfl | rfl | rfl | rfl | hq
    · exact Nat.ne_of_gt u6
    · exact Nat.ne_of_gt u5
    · exact Nat.ne_of_gt u4
    · exact Nat.ne_of_gt u3
    · exact Nat.ne_of_gt u2
    · exact Nat.ne_of_gt u1
    · exact hW q hq
  intro r2 tr2 tk4 tk5 h4 r20 r21 F4 N4
  obtain ⟨pv, po, hpv, hpo, hpl⟩ := prompt_pick NX r20 r21
  clear NX NY FX
  dsimp only
  k_steps
  rename News g' L' _ _ => NX
  unfold Stop
  refine item_at (NX.isList (by k_mem)) r20 (by omega) hpv ?_
  k_steps
  rename Fr g' L' _ _ => FX
  have NY := NX
  unfold Stop
  refine wpAny_call ?_
  k_dflt (refine' given_spec (i := i + 1 + 1) ⟨?hB, FX, ?hX, ?hT, ?hf, ?hk⟩ NY ?hd hI hns ?h0 ?h1 ?hm ?hm2 hWS ?hW ?zz3)
  case hB => k_asm
  case hX => k_asm
  case hT => k_asm
  case hf => exact rfl
  case hk => exact rfl
  case hd => k_room
  case h0 => omega
  case h1 => omega
  case hm => decide
  case hm2 => decide
  case hW =>
    intro q hq
    simp only [List.mem_cons] at hq
    rcases hq with rfl | rfl | rfl | rfl | rfl | rfl | hq
    · exact Nat.ne_of_gt u6
    · exact Nat.ne_of_gt u5
    · exact Nat.ne_of_gt u4
    · exact Nat.ne_of_gt u3
    · exact Nat.ne_of_gt u2
    · exact Nat.ne_of_gt u1
    · exact hW q hq
  intro r3 tr3 tk6 tk7 h6 r30 r31 F6 N6
  clear NX NY FX
  dsimp only
  k_steps
  rename Fr h₀ L _ _ => Fh
  rename News h₀ L _ _ => Nh
  obtain ⟨O, e0⟩ := nm_top Nh
  subst e0
  obtain ⟨u7, v7, -, -, -, -, -, -, y7⟩ := (by assumption : W < O ∧ S < O ∧ P0 < O ∧ A5 < O ∧ A4 < O ∧ A3 < O ∧ A2 < O ∧ A1 < O ∧ AllLt O rest)
  refine post O 0 kv pv ⟨ko, po, r3 == 0⟩ _ _ _ _ ?_ ?_ hpo hpl ?_ Fh (order_more Nh)
  · exact .head _
  · refine hK.mono fun q hq => ?_
    simp only [List.mem_cons, List.not_mem_nil, or_false] at hq ⊢
    rcases hq with hq | hq | hq | hq <;> simp [hq]
  · intro q hq
    simp only [List.mem_cons, List.not_mem_nil, or_false] at hq
    rcases hq with rfl | rfl | rfl | rfl | rfl | rfl | rfl
    · exact ⟨u7, v7, lt_of_allLt y7⟩
    · exact ⟨u6, v6, lt_of_allLt y6⟩
    · exact ⟨u5, v5, lt_of_allLt y5⟩
    · exact ⟨u4, v4, lt_of_allLt y4⟩
    · exact ⟨u3, v3, lt_of_allLt y3⟩
    · exact ⟨u2, v2, lt_of_allLt y2⟩
    · exact ⟨u1, v1, lt_of_allLt y1⟩
end
theorem wd_A_26 : True := by
  k_with_none
  k_with "exec While" => (k_here; k_dflt (refine stop_while ?_))
  k_with "exec While BoolOp" => (k_here; k_dflt (refine stop_while ?_))
  k_with "exec While Compare" => (k_here; k_dflt (refine stop_while ?_))
  k_with "TurnEnd" => (dsimp only [TurnEnd])
  k_with "eval Name" => (k_here; k_dflt (refine' ld ?w9k1 ?w9k2 ?_; (case w9k1 => k_asm); (case w9k2 => (repeat refine Eq.trans (if_neg (by decide)) ?_); first | assumption | exact if_pos rfl); k_whole))
  k_with "loadName" => (k_here; k_dflt (refine' ldn ?w9k1 ?w9k2 ?_; (case w9k1 => k_asm); (case w9k2 => (repeat refine Eq.trans (if_neg (by decide)) ?_); first | assumption | exact if_pos rfl); k_whole))
  k_with "exec While Name" => (k_here; k_dflt (refine stop_while ?_))
  k_with "exec While Name cons nil" => (k_here; k_dflt (refine stop_while ?_))
  k_with "last exec While" => (k_here; k_dflt (refine stop_while ?_))
  k_with "exec For" => (k_here; k_dflt (refine stop_for ?_))
  k_with "exec For Tuple" => (k_here; k_dflt (refine stop_for ?_))
  k_with "exec For Tuple Call" => (k_here; k_dflt (refine stop_for ?_))
  k_with "exec For Tuple Call cons nil" => (k_here; k_dflt (refine stop_for ?_))
  k_with "exec For Name" => (k_here; k_dflt (refine stop_for ?_))
  k_with "exec For Name Name" => (k_here; k_dflt (refine stop_for ?_))
  k_with "exec For Name Name cons nil" => (k_here; k_dflt (refine stop_for ?_))
  k_with "exec For Name Call" => (k_here; k_dflt (refine stop_for ?_))
  k_with "exec For Name Call cons nil" => (k_here; k_dflt (refine stop_for ?_))
  k_with "call builtin:len" => (k_here; (with_reducible show wpAny _ _ (call (Value.builtin "len") [Value.ref _]) _ _ _); k_dflt (refine' len_led ?w9N ?w9m ?w9z ?_; (case w9N => k_asm); (case w9m => k_mem); (case w9z => omega); k_whole))
  k_with "call builtin:list.pop" => (k_here; (with_reducible show wpAny _ _ (call (Value.builtin _) [Value.ref _, Value.int _ _]) _ _ _); k_dflt (refine' pop_first ?w9F ?w9N ?w9U ?w9z ?_; (case w9F => k_asm); (case w9N => k_asm); (case w9U => k_upd); (case w9z => omega); k_whole); (intro h_w F_w N_w); (try k_sweep))
  k_with "leaving ref" => (k_here; first
      | (refine' leave_raiseS ?w9k1 ?w9k0 ?w9k2 ?w9k3 ?_; (case w9k0 => first | assumption | exact Heap.MadeExc.of (by assumption)); (case w9k2 => assumption); (case w9k1 => assumption); (case w9k3 => k_asm); k_whole; intro h_w t_w S_w R_w U_w; (try dsimp only at S_w R_w U_w ⊢))
      | (refine' leave_onS ?w9k1 ?w9k2 ?w9k3 ?w9k4 ?_; (case w9k3 => assumption); (case w9k1 => assumption); (case w9k4 => assumption); (case w9k2 => assumption); k_whole; intro h_w S_w R_w U_w; (try dsimp only at S_w R_w U_w ⊢)))
  k_with "call ref" => (k_here; (with_reducible show wpAny _ _ (call (Value.ref 71) _) _ _ _); refine wpAny_call ?_; k_dflt (refine' blank_end_spec ⟨?w9hB, ?w9hF, ?w9hX, ?w9hT, ?w9hf, ?w9hk⟩ ?w9hN ?w9hd ?w9hx ?w9h0 ?w9h1 ?_; (case w9hF => k_asm); (case w9hB => k_asm); (case w9hX => k_asm); (case w9hT => k_asm); (case w9hf => first | exact rfl | assumption); (case w9hk => first | exact rfl | assumption); (case w9hN => k_asm); (case w9hd => k_room); (case w9hx => first | assumption | omega); (case w9h0 => omega); (case w9h1 => omega); k_whole); intro tk_w tk_w_w h_w F_w N_w; (try k_sweep))
  k_with "call ref" => (k_here; (with_reducible show wpAny _ _ (call (Value.ref 78) _) _ _ _); refine wpAny_call ?_; k_dflt (refine' quoted_field_spec ⟨?w9hB, ?w9hF, ?w9hX, ?w9hT, ?w9hf, ?w9hk⟩ ?w9hN ?w9hd ?w9hx ?w9h0 ?w9h1 ?_; (case w9hF => k_asm); (case w9hB => k_asm); (case w9hX => k_asm); (case w9hT => k_asm); (case w9hf => first | exact rfl | assumption); (case w9hk => first | exact rfl | assumption); (case w9hN => k_asm); (case w9hd => k_room); (case w9hx => first | assumption | omega); (case w9h0 => omega); (case w9h1 => first | omega | exact slice_quote (by omega) (by assumption)); k_whole); intro D_w t1_w t2_w tk_w_w h_w hq_w l1_w F_w N_w; (try k_lt l1_w); (try k_sweep))
  k_with "call ref" => (k_here; (with_reducible show wpAny _ _ (call (Value.ref 85) _) _ _ _); refine wpAny_call ?_; k_dflt (refine' field_at_spec ⟨?w9hB, ?w9hF, ?w9hX, ?w9hT, ?w9hf, ?w9hk⟩ ?w9hN ?w9hd ?w9hx ?w9h0 ?w9h1 ?_; (case w9hF => k_asm); (case w9hB => k_asm); (case w9hX => k_asm); (case w9hT => k_asm); (case w9hf => first | exact rfl | assumption); (case w9hk => first | exact rfl | assumption); (case w9hN => k_asm); (case w9hd => k_room); (case w9hx => first | assumption | omega); (case w9h0 => omega); (case w9h1 => omega); k_whole); intro D_w v_w t2_w tk_w_w h_w ho_w l1_w F_w N_w; (try k_lt l1_w); (try k_sweep); ((rcases optV_cases ho_w with ⟨e_w, ev_w⟩ | ⟨y_w, t_w, e_w, ev_w⟩) <;> subst ev_w))
  k_with "call ref" => (k_here; (with_reducible show wpAny _ _ (call (Value.ref 92) _) _ _ _); refine wpAny_call ?_; k_dflt (refine' told_fields_spec ⟨?w9hB, ?w9hF, ?w9hX, ?w9hT, ?w9hf, ?w9hk⟩ ?w9hN ?w9hd ?w9hx ?_; (case w9hF => k_asm); (case w9hB => k_asm); (case w9hX => k_asm); (case w9hT => k_asm); (case w9hf => first | exact rfl | assumption); (case w9hk => first | exact rfl | assumption); (case w9hN => k_asm); (case w9hd => k_room); (case w9hx => first | assumption | omega); k_whole); intro v_w tk_w_w h_w ho_w F_w; (try k_sweep); ((rcases told_cases ho_w with ⟨e_w, ev_w, N_w⟩ | ⟨fs_w, l_w, vs_w, n_w, tl_w, e_w, ev_w, D_w, N_w, l1_w, l2_w, lf_w, ll_w, lv_w⟩) <;> subst ev_w <;> clear ho_w))
  k_with "call ref" => (k_here; (with_reducible show wpAny _ _ (call (Value.ref 180) _) _ _ _); refine wpAny_call ?_; k_dflt (refine' number_spec ⟨?w9hB, ?w9hF, ?w9hX, ?w9hT, ?w9hf, ?w9hk⟩ ?w9hN ?w9hd ?w9hu ?w9hx ?w9ho ?_; (case w9hF => k_asm); (case w9hB => k_asm); (case w9hX => k_asm); (case w9hT => k_asm); (case w9hf => first | exact rfl | assumption); (case w9hk => first | exact rfl | assumption); (case w9hN => k_asm); (case w9hd => k_room); (case w9hu => (dsimp only [Around.deeper, Around.in1, Around.mark]; omega)); (case w9hx => first | assumption | omega); (case w9ho => assumption); k_whole); intro v_w tk_w_w h_w ho_w N_w F_w; (try k_sweep))
  k_with "call ref" => (k_here; (with_reducible show wpAny _ _ (call (Value.ref 99) _) _ _ _); refine wpAny_call ?_; k_dflt (refine' value_spec ⟨?w9hB, ?w9hF, ?w9hX, ?w9hT, ?w9hf, ?w9hk⟩ ?w9hN ?w9hd ?w9hu ?w9hx ?w9ho ?_; (case w9hF => k_asm); (case w9hB => k_asm); (case w9hX => k_asm); (case w9hT => k_asm); (case w9hf => first | exact rfl | assumption); (case w9hk => first | exact rfl | assumption); (case w9hN => k_asm); (case w9hd => k_room); (case w9hu => (dsimp only [Around.deeper, Around.in1, Around.mark]; omega)); (case w9hx => first | assumption | omega); (case w9ho => assumption); k_whole); intro v_w tk_w_w h_w ho_w N_w F_w; (try k_sweep); ((rcases value_three ho_w with ⟨e_w, ev_w⟩ | ⟨y_w, t_w, e_w, ev_w⟩ | ⟨i_w, t_w, e_w, ev_w⟩) <;> subst ev_w))
  k_with "call ref" => (k_here; (with_reducible show wpAny _ _ (call (Value.ref 106) _) _ _ _); refine wpAny_call ?_; k_dflt (refine' fitted_spec ⟨?w9hB, ?w9hF, ?w9hX, ?w9hT, ?w9hf, ?w9hk⟩ ?w9hN ?w9hd ?w9hu ?w9hx ?w9ho ?w9hK ?w9hks ?w9hkl ?_; (case w9hF => k_asm); (case w9hB => k_asm); (case w9hX => k_asm); (case w9hT => k_asm); (case w9hf => first | exact rfl | assumption); (case w9hk => first | exact rfl | assumption); (case w9hN => k_asm); (case w9hd => k_room); (case w9hu => (dsimp only [Around.deeper, Around.in1, Around.mark]; omega)); (case w9hx => first | assumption | omega); (case w9ho => assumption); (case w9hK => k_mem); (case w9hks => assumption); (case w9hkl => assumption); k_whole); intro v_w tk_w_w h_w ho_w F_w; (try k_sweep); ((rcases fit_cases ho_w with ⟨e_w, ev_w, N_w⟩ | ⟨ds_w, l_w, vs_w, n_w, e_w, ev_w, D_w, N_w, l1_w⟩) <;> subst ev_w <;> clear ho_w))
  k_with "setAttr ref" => (k_here; k_dflt (refine' set_dict ?w9k1 ?w9k2 ?w9k3 ?w9k4 ?w9k5 ?w9k6 ?w9k7 ?w9k8 ?w9k9 ?w9k10 ?w9k11 ?w9k12 ?w9k13 ?_; (case w9k1 => k_asm); (case w9k2 => k_asm); (case w9k3 => k_asm); (case w9k4 => k_inst); (case w9k5 => exact rfl); (case w9k6 => k_is); (case w9k7 => k_is); (case w9k8 => k_is); (case w9k9 => k_is); (case w9k10 => k_get); (case w9k11 => exact rfl); (case w9k12 => k_upd); (case w9k13 => (repeat rw [putL_len (by k_get)]); omega); k_whole; intro h_w F_w N_w; (try k_sweep)))
  k_with "call builtin:len" => (k_here; (with_reducible show wpAny _ _ (call (Value.builtin "len") [Value.ref _]) _ _ _); k_dflt (first | (refine' len_ledC ?w9N ?w9m ?w9z ?_; (case w9N => k_asm); (case w9m => k_mem); (case w9z => omega); k_whole) | (refine' len_ledN ?w9N ?w9m ?_; (case w9N => k_asm); (case w9m => k_mem); k_whole)))
  k_with "call ref" => (k_here; (with_reducible show wpAny _ _ (call (Value.ref 120) _) _ _ _); refine wpAny_call ?_; k_dflt (refine' prompt_spec ⟨?w9hB, ?w9hF, ?w9hX, ?w9hT, ?w9hf, ?w9hk⟩ ?w9hN ?w9hd ?w9hW ?w9hO ?w9hol ?w9hp ?w9hpl ?w9hrl ?w9d1 ?w9d2 ?w9d3 ?w9d5 ?w9d6 ?w9r1 ?w9r2 ?_; (case w9hF => k_asm); (case w9hB => k_asm); (case w9hX => k_asm); (case w9hT => k_asm); (case w9hf => first | exact rfl | assumption); (case w9hk => first | exact rfl | assumption); (case w9hN => k_asm); (case w9hd => k_room); (case w9hW => assumption); (case w9hO => assumption); (case w9hol => omega); (case w9hp => assumption); (case w9hpl => assumption); (case w9hrl => assumption); (case w9d1 => assumption); (case w9d2 => assumption); (case w9d3 => assumption); (case w9d5 => assumption); (case w9d6 => assumption); (case w9r1 => assumption); (case w9r2 => assumption); k_whole); intro es_w n_w ovs_w no_w tk_w_w h_w hW_w hO_w hl_w F_w N_w; (try k_sweep); (obtain ⟨⟨tr_w, hr_w⟩, hi_w, ho_w, hlen_w⟩ := (id hW_w)))
  k_with "call ref" => (k_here; (with_reducible show wpAny _ _ (call (Value.ref 134) _) _ _ _); refine wpAny_call ?_; k_dflt (first
      | (refine' ask_line_wait ⟨?w9hB, ?w9hF, ?w9hX, ?w9hT, ?w9hf, ?w9hk⟩ ?w9hN ?w9hd ?w9hW ?_; (case w9hF => k_asm); (case w9hB => k_asm); (case w9hX => k_asm); (case w9hT => k_asm); (case w9hf => first | exact rfl | assumption); (case w9hk => first | exact rfl | assumption); (case w9hN => k_asm); (case w9hd => k_room); (case w9hW => assumption); k_whole; intro e_w t_w tk_w_w h_w g2_w FG2_w U2_w R2_w; (try dsimp only))
      | (refine' ask_line_spec ⟨?w9hB, ?w9hF, ?w9hX, ?w9hT, ?w9hf, ?w9hk⟩ ?w9hN ?w9hd ?w9hW ?w9hrr ?w9hil ?w9hO ?w9hol ?w9hp ?w9hpl ?w9hrl ?w9d1 ?w9d2 ?w9d3 ?w9d4 ?w9d5 ?w9d6 ?w9r1 ?w9r2 ?w9r3 ?_; (case w9hF => k_asm); (case w9hB => k_asm); (case w9hX => k_asm); (case w9hT => k_asm); (case w9hf => first | exact rfl | assumption); (case w9hk => first | exact rfl | assumption); (case w9hN => k_asm); (case w9hd => k_room); (case w9hW => assumption); (case w9hrr => assumption); (case w9hil => omega); (case w9hO => assumption); (case w9hol => omega); (case w9hp => assumption); (case w9hpl => assumption); (case w9hrl => assumption); (case w9d1 => assumption); (case w9d2 => assumption); (case w9d3 => assumption); (case w9d4 => assumption); (case w9d5 => assumption); (case w9d6 => assumption); (case w9r1 => assumption); (case w9r2 => assumption); (case w9r3 => assumption); k_whole; intro es_w n_w ovs_w no_w tk_w_w h_w hW_w hO_w hl_w F_w N_w; (try dsimp only)); (try k_sweep)))
  k_with "call ref" => (k_here; (with_reducible show wpAny _ _ (call (Value.ref 127) _) _ _ _); refine wpAny_call ?_; k_dflt (refine' ask_values_spec ⟨?w9hB, ?w9hF, ?w9hX, ?w9hT, ?w9hf, ?w9hk⟩ ?w9hN ?w9hd ?w9hu ?w9hW ?w9hI ?w9hir ?w9hO ?w9hol ?w9hp ?w9hpl ?w9hrl ?w9hK ?w9hks ?w9hkl ?w9d1 ?w9d2 ?w9d3 ?w9d4 ?w9d5 ?w9d6 ?w9r1 ?w9r2 ?w9r3 (fun ds_w outs_w row_w ins_w h_w tk_w l_w vs_w nl_w es_w n_w ivs_w ni_w ovs_w no_w e_w hW_w hI_w hO_w hol_w hds_w F_w N_w l1_w l2_w l3_w l4_w l5 => ?_) (fun outs_w row_w h_w tk_w e_w t_w es_w n_w ivs_w ni_w ovs_w no_w g2_w ee_w hW_w hI_w hO_w hol_w hrl_w FG2_w U2_w R2_w => ?_); (case w9hF => k_asm); (case w9hB => k_asm); (case w9hX => k_asm); (case w9hT => k_asm); (case w9hf => first | exact rfl | assumption); (case w9hk => first | exact rfl | assumption); (case w9hN => k_asm); (case w9hd => k_room); (case w9hu => (dsimp only [Around.deeper, Around.in1, Around.mark]; omega)); (case w9hW => assumption); (case w9hI => assumption); (case w9hir => assumption); (case w9hO => assumption); (case w9hol => omega); (case w9hp => assumption); (case w9hpl => assumption); (case w9hrl => assumption); (case w9hK => k_mem); (case w9hks => assumption); (case w9hkl => assumption); (case w9d1 => assumption); (case w9d2 => assumption); (case w9d3 => assumption); (case w9d4 => assumption); (case w9d5 => assumption); (case w9d6 => assumption); (case w9r1 => assumption); (case w9r2 => assumption); (case w9r3 => assumption); (try dsimp only); (try k_sweep)))
  k_with "subscriptTail Name Slice ref ref" => (k_here; (with_reducible show wpAny _ _ (subscriptTail _ (PySem.Expr.Slice _ _ none _) (Value.ref _) (Value.ref _)) _ _ _); k_dflt (refine' kms_slice_lit ?w9F ?w9N ?w9l ?w9p ?w9q ?w9e ?_ ?w9s ?w9t ?w9z; (case w9F => k_asm); (case w9N => k_asm); (case w9l => kmk_list); (case w9p => kmk_part); (case w9q => kmk_part); (case w9e => first | exact pick_all _ | exact pick_first _ | exact pick_rest _ | exact pick_init _); (case w9s => with_unfolding_all rfl); (case w9t => kmk_pure); (case w9z => rw [List.size_toArray, sizeLine_eq]; omega)); intro D_w h_w F_w N_w l1_w; (try k_lt l1_w); (try k_sweep))
  k_with "call ref" => (k_here; (with_reducible show wpAny _ _ (call (Value.ref 194) _) _ _ _); refine wpAny_call ?_; k_dflt (refine' state_spec ⟨?w9hB, ?w9hF, ?w9hX, ?w9hT, ?w9hf, ?w9hk⟩ ?w9hN ?w9hd ?w9hW ?w9hI ?w9hO ?w9hol ?w9hil ?_; (case w9hF => k_asm); (case w9hB => k_asm); (case w9hX => k_asm); (case w9hT => k_asm); (case w9hf => first | exact rfl | assumption); (case w9hk => first | exact rfl | assumption); (case w9hN => k_asm); (case w9hd => k_room); (case w9hW => assumption); (case w9hI => assumption); (case w9hO => assumption); (case w9hol => omega); (case w9hil => omega); k_whole); intro D_w D1_w D2_w t_w h_w tk_w q1_w q2_w q3_w F_w N_w; (try simp only [AllLt] at q3_w); (try k_sweep))
  k_with "call ref" => (k_here; (with_reducible show wpAny _ _ (call (Value.ref 152) _ _) _ _ _); k_dflt (refine' world_spec ⟨?w9hB, ?w9hF, ?w9hX, ?w9hT, ?w9hf, ?w9hk⟩ ?w9hN ?w9hd ?_; (case w9hF => k_asm); (case w9hB => k_asm); (case w9hX => k_asm); (case w9hT => k_asm); (case w9hf => first | exact rfl | assumption); (case w9hk => first | exact rfl | assumption); (case w9hN => k_asm); (case w9hd => k_room); k_whole); intro dx_w x_w io_w oo_w es_w n_w tk_w h_w hW_w q1_w q2_w q3_w q4_w F_w N_w; (try k_sweep); (obtain ⟨⟨tr_w, hr_w⟩, hi_w, ho_w, hlen_w⟩ := (id hW_w)))
  trivial
theorem off_Cm0 : True := by
  w_top off
  trivial
section
variable {w : World} {hd : Option Value} {dp un : Nat} {gd : Option (List Code)} {env : Env} {outer : List Env} {A₀ : Around} {base h₀ : Heap} {L : Addr} {m : Str → Option Value}
    {p : Program} {loose : List Str} {mean : ExcName → Option Value} {mg mb : Str → Option Value} {s : Shared} {R : Result → Shared → Prop}
    {rest : List (Addr × Obj)}
theorem compEnd_mono {h₀ : Heap} {L I C D : Addr} {m : Str → Option Value} {s₁ s₂ : Shared} {oI oC oD : Obj} {S : List (Addr × Obj) → Prop} {r r' : Value → List (Addr × Obj) → Prop} {y : Value} (h : LCg.CompEnd h₀ L m s₁ I oI C oC D oD S r y s₂)
    (k : ∀ y n, r y n → r' y n) : LCg.CompEnd h₀ L m s₁ I oI C oC D oD S r' y s₂ := by
  obtain ⟨h', tk, news', e, F, N, o, hS, hr⟩ := h
  exact ⟨h', tk, news', e, F, N, o, hS, k _ _ hr⟩
/-- a list comprehension, by what holds between the turns -/
theorem comp_turns {prog : Program} {w : World} {A : Around} {s : Shared} {h₀ : Heap} {L : Addr} {m : Str → Option Value} {env : Env} {elt : PySem.Expr} {x : Str} {scope : Scope} {cl : List (Str × Addr)} {S : List (Addr × Obj) → Prop} {P : Nat → Value → Prop}
    {Fin : List Value → List (Addr × Obj) → Prop} (n : Nat) (J : Nat → List Value → List (Addr × Obj) → Prop)
    (turn : ∀ i ys news, i < n → J i ys news → ∀ v I oI C oC D m₂ h tk (E' : Value → Shared → Prop), P i v → LCg.NsObj oC m₂ → m₂ x = some v → Fr h₀ L h m → News h₀ L h ((I, oI) :: (C, oC) :: (D, LCg.lst ys) :: news) → LCg.Off3 I C D news → ((@Ne Nat I C) ∧ (@Ne Nat I D) ∧ (@Ne Nat C D)) →
      wpAny (model prog w) A (eval elt (compEnvC scope cl C env)) (LCg.CompEnd h₀ L m { s with heap := h, toks := tk } I oI C oC D (LCg.lst ys) S (fun y news' => J (i + 1) (ys ++ [y]) news')) E' { s with heap := h, toks := tk })
    (fin : ∀ ys news, J n ys news → Fin ys news) : ∀ k i ys news, i + k = n → J i ys news → LCg.CompRest prog w A h₀ L m env elt x scope cl s S P Fin k i ys news := by
  intro k
  induction k with
  | zero => intro i ys news e hJ; exact fin _ _ (by have : i = n := by omega
                                                    subst this; exact hJ)
  | succ k ih =>
    intro i ys news e hJ
    refine LCg.CompRest.succ fun v I oI C oC D m₂ h tk E' hP hC hx F N off ne => ?_
    exact wpAny_mono (turn i ys news (by omega) hJ v I oI C oC D m₂ h tk E' hP hC hx F N off ne) (fun y s₂ hE => compEnd_mono hE fun y nw hr => ih (i + 1) _ _ (by omega) hr) fun _ _ e => e
end
theorem off_Od1 : True := by
  w_top off
  trivial
section
variable {w : World} {hd : Option Value} {dp un : Nat} {gd : Option (List Code)} {env : Env} {outer : List Env} {A₀ : Around} {base h₀ : Heap} {L : Addr} {m : Str → Option Value}
    {p : Program} {loose : List Str} {mean : ExcName → Option Value} {mg mb : Str → Option Value} {s : Shared} {R : Result → Shared → Prop}
    {rest : List (Addr × Obj)}
theorem news_front3 {g h : Heap} {L : Addr} {a b x y z : Addr × Obj} {r : List (Addr × Obj)} (N : News g L h (x :: y :: z :: a :: b :: r)) : News g L h (a :: b :: x :: y :: z :: r) := N.perm (by
  intro p hp; simp only [List.mem_cons] at hp ⊢; rcases hp with hp | hp | hp | hp | hp | hp <;> simp [hp])
theorem int_two {r : Int} (h0 : 0 ≤ r) (h1 : r < 2) : r = 0 ∨ r = 1 := by
  obtain ⟨n, rfl⟩ := Int.eq_ofNat_of_zero_le h0
  exact (by decide : ∀ n : Nat, n < 2 → ((n : Int) = 0 ∨ (n : Int) = 1)) n (Int.ofNat_lt.mp h1)
theorem int_eight {r : Int} (h0 : 0 ≤ r) (h1 : r < 8) : r = 0 ∨ r = 1 ∨ r = 2 ∨ r = 3 ∨ r = 4 ∨ r = 5 ∨ r = 6 ∨ r = 7 := by
  obtain ⟨n, rfl⟩ := Int.eq_ofNat_of_zero_le h0
  exact (by decide : ∀ n : Nat, n < 8 → ((n : Int) = 0 ∨ (n : Int) = 1 ∨ (n : Int) = 2 ∨ (n : Int) = 3 ∨ (n : Int) = 4 ∨ (n : Int) = 5 ∨ (n : Int) = 6 ∨ (n : Int) = 7)) n (Int.ofNat_lt.mp h1)
theorem some_pick {g h : Heap} {L A5 n0 : Nat} {t1 t2 t3 t4 t5 t6 t7 t8 : Tok} {p q : Addr × Obj} {rr : List (Addr × Obj)} (_N : News g L h (p :: q :: (A5, listOf #[.str (Str.ofString "7") t1, .str (Str.ofString " 12 ") t2, .str (Str.ofString "x") t3, .str (Str.ofString "") t4, .str (Str.ofString "\"a,b\"") t5, .str (Str.ofString "\"z\" y") t6, .str (Str.ofString "\"open") t7, .str (Str.ofString "a b") t8] n0) :: rr)) :
    ∀ r : Int, 0 ≤ r → r < 8 → ∃ x t, [Value.str (Str.ofString "7") t1, .str (Str.ofString " 12 ") t2, .str (Str.ofString "x") t3, .str (Str.ofString "") t4, .str (Str.ofString "\"a,b\"") t5, .str (Str.ofString "\"z\" y") t6, .str (Str.ofString "\"open") t7, .str (Str.ofString "a b") t8][r.toNat]? = some (.str x t) ∧ x.length ≤ 6 ∧ PyData.strOk x = true := by
  intro r h0 h1
  rcases int_eight h0 h1 with rfl | rfl | rfl | rfl | rfl | rfl | rfl | rfl <;> exact ⟨_, _, rfl, by decide +kernel, by decide +kernel⟩
theorem nm_tail {g h : Heap} {L : Addr} {a : Addr × Obj} {r : List (Addr × Obj)} (_N : News g L h (a :: r)) : ∃ r', r' = r := ⟨_, rfl⟩
theorem strsAre_snoc {vs : List Value} {xs : List Str} (h : StrsAre vs xs) (x : Str) (t : Tok) : StrsAre (vs ++ [.str x t]) (xs ++ [x]) := by
  induction h with
  | nil => exact .cons x t .nil
  | cons y u _ ih => exact .cons y u ih
theorem okS_join {sep : Str} (hs : PyData.strOk sep = true) : ∀ (xs : List Str), (∀ x ∈ xs, PyData.strOk x = true) → PyData.strOk (Str.join sep xs) = true
  | [], _ => okS_nil
  | [x], h => h x (.head _)
  | x :: y :: r, h => okS_append (okS_append (h x (.head _)) hs) (okS_join hs (y :: r) fun z hz => h z (.tail _ hz))
theorem sum_six : ∀ (xs : List Str), (∀ x ∈ xs, x.length ≤ 6) → (xs.map (·.length)).sum ≤ 6 * xs.length
  | [], _ => Nat.le_refl _
  | x :: xs, h => by
    have h1 := h x (.head _)
    have h2 := sum_six xs fun z hz => h z (.tail _ hz)
    simp only [List.map_cons, List.sum_cons, List.length_cons]
    omega
theorem wd_A_27 : True := by
  k_with "eval Name" => (k_here; k_dflt (first
      | (refine' nameX_C (hk := ?w9a) (hx := ?w9b) ?w9N ?w9hc ?w9hm ?w9hd ?_; (case w9a => rfl); (case w9b => rfl); (case w9N => k_asm); (case w9hc => rfl); (case w9hm => k_mem); (case w9hd => assumption); k_whole)
      | (refine' lcf_cell (hk := ?w9a) (hx := ?w9b) ?w9N ?w9hc ?w9hm ?w9hd ?_; (case w9a => rfl); (case w9b => rfl); (case w9N => k_asm); (case w9hc => rfl); (case w9hm => k_mem); (case w9hd => assumption); k_whole)))
  k_with "CompSrc" => (k_here; refine stop_any ?_)
  k_with "call builtin:str.join" => (k_here; refine stop_any ?_)
  k_with "call ref" => (k_here; (with_reducible show wpAny _ _ (call (Value.ref 163) _) _ _ _); refine stop_any ?_)
  k_with "subscriptTail Name Call" => (k_here; (with_reducible show wpAny _ _ (subscriptTail _ _ (Value.ref _) (Value.int _ _)) _ _ _); refine stop_any ?_)
  k_with "subscriptTail Name" => (k_here; (with_reducible show wpAny _ _ (subscriptTail _ _ (Value.ref _) (Value.int _ _)) _ _ _); refine stop_any ?_)
  trivial
theorem row_spec {W S : Nat} {i : Int} {tk n c : Nat} {vs : Array Value} {ns : List Int}
    (H : Here w A₀ base outer h₀ L m p loose mean mg mb env s)
    (N : News h₀ L s.heap ((W, listOf #[.ref S, .int i tk] n) :: (S, listOf vs c) :: rest))
    (hdp : dp + 20 < recursionLimit)
    (hI : IntsAre vs.toList ns) (hns : ns.length ≤ 100) (hi : 0 ≤ i) (hi2 : i < 900) (hWS : W ≠ S) (hW : ∀ p ∈ rest, p.1 ≠ W)
    (post : ∀ (x : Str) t (j : Int) tk' h' tk'' (more : List (Addr × Obj)), x.length ≤ 100 → PyData.strOk x = true → i ≤ j → j ≤ i + 3 → Fr h₀ L h' m → News h₀ L h' ((W, listOf #[.ref S, .int j tk'] n) :: (S, listOf vs c) :: rest) → R (.ok (.ret (.str x t))) { s with heap := h', toks := tk'' }) :
    codeAny (model Challenge.rw_sm0001_01.row.prog w) (At none dp un gd env outer) (.call (.ref 175) ⟨[.ref W], []⟩) R s := by
  obtain ⟨B, F, X, T, hf, hke⟩ := H
  refine' code_defC (A := At none dp un gd env outer) (env := env) (outer := outer) B F X N T rfl hf hke ?k6 ?k7 ?k8 ?k9 ?kB ?kD ?_ ?c2 ?c3 ?c4
  case k6 => k_dflt k_is
  case k7 => k_dflt k_is
  case k8 => k_room
  case k9 => exact BindsTo.of_eq rfl
  case kB => exact rfl
  case kD => decide +kernel
  case c2 => exact rfl
  case c3 => exact rfl
  case c4 => exact rfl
  intro g' L' h' tk' cells' FG' F' N' Y' B' X' T' l1
  (try k_lt l1)
  k_cells Y'
  (try simp only [List.cons_append, List.nil_append] at N')
  (try dsimp only)
  show wpAny _ _ _ _ _ _
  k_fold
  rename Obj.data _ = Data.cell (bindC _ _ _ _) => d2
  replace d2 : _ = Data.cell (some (Value.ref W)) := d2
  rename Obj.data _ = Data.cell (bindC _ _ _ _) => d1
  replace d1 : _ = Data.cell none := d1
  obtain ⟨M0, F'⟩ : ∃ M0, Fr g' L' _ M0 := ⟨_, F'⟩
  obtain ⟨lw, ls, lr⟩ := (by assumption : W < L' ∧ S < L' ∧ AllLt L' rest)
  have hc1 : ∀ p ∈ rest, p.1 ≠ L' + 1 := fun p hp => Nat.ne_of_lt (Nat.lt_succ_of_lt (lt_of_allLt lr p hp))
  have hc2 : ∀ p ∈ rest, p.1 ≠ L' + 1 + 1 := fun p hp => Nat.ne_of_lt (Nat.lt_succ_of_lt (Nat.lt_succ_of_lt (lt_of_allLt lr p hp)))
  k_steps
  rename News g' L' _ _ => NX
  obtain ⟨A5, e0⟩ := nm_first NX
  subst e0
  obtain ⟨-, -, u1, v1, y1⟩ := (by assumption : L' + 1 + 1 < A5 ∧ L' + 1 < A5 ∧ W < A5 ∧ S < A5 ∧ AllLt A5 rest)
  have NY := news_front3 NX
  rename Fr g' L' _ _ => FX
  unfold Stop
  refine wpAny_call ?_
  k_dflt (refine' given_spec (i := i) ⟨?hB, FX, ?hX, ?hT, ?hf, ?hk⟩ NY ?hd hI hns ?h0 ?h1 ?hm ?hm2 hWS ?hW ?zz)
  case hB => k_asm
  case hX => k_asm
  case hT => k_asm
  case hf => exact rfl
  case hk => exact rfl
  case hd => k_room
  case h0 => omega
  case h1 => omega
  case hm => decide
  case hm2 => decide
  case hW =>
    intro q hq
    simp only [List.mem_cons] at hq
    rcases hq with rfl | rfl | rfl | hq
    · exact Nat.ne_of_gt u1
    · exact Nat.ne_of_gt (Nat.lt_succ_of_lt (Nat.lt_succ_of_lt lw))
    · exact Nat.ne_of_gt (Nat.lt_succ_of_lt lw)
    · exact hW q hq
  intro r tr tk2 tk3 h2 r0 r1 F2 N2
  clear NX NY FX
  dsimp only
  obtain ⟨n0, hn1, hn2, hn3, hn4⟩ : ∃ n0 : Nat, Builtin.Range.small 0 (1 + r) 1 = true ∧ Builtin.Range.rangeSize 0 (1 + r) 1 = ((n0 : Nat) : Int) ∧ 1 ≤ n0 ∧ n0 ≤ 2 := by
    rcases int_two r0 r1 with rfl | rfl
    · exact ⟨1, by decide, by decide, by decide, by decide⟩
    · exact ⟨2, by decide, by decide, by decide, by decide⟩
  k_steps
  rename News g' L' _ _ => NX
  rename Fr g' L' _ _ => FX
  rename IsRange _ _ _ _ _ _ _ _ => RX
  have pick := some_pick NX
  obtain ⟨TL, eTL⟩ := nm_tail NX
  rw [← eTL] at NX
  unfold Stop
  refine LCg.CompSrc.range (by rfl) FX NX RX hn1 hn2 (by rw [sizeLine_eq]; omega) (fun g0 => comp_turns n0 (fun k ys news => ∃ tkj xs, StrsAre ys xs ∧ xs.length = k ∧ (∀ x ∈ xs, x.length ≤ 6 ∧ PyData.strOk x = true) ∧ news = (W, listOf #[.ref S, .int (i + 1 + (k : Int)) tkj] n) :: TL) ?turn ?fin n0 0 [] _ (by omega) ?h0)
  case h0 => exact ⟨_, [], .nil, rfl, (fun _ hp => absurd hp List.not_mem_nil), by rw [Int.natCast_zero, Int.add_zero]⟩
  case turn =>
    clear NX FX RX
    rintro k ys _ hk ⟨tkj, xs, hS, hl, hx6, rfl⟩ v I oI C oC D m₂ h tk9 E' ⟨tv, rfl⟩ hC hm9 F9 N9 off ne
    rw [eTL] at N9 off
    have oW := off.1
    have off2 : LCg.Off3 I C D TL := by rw [eTL]; exact off.2
    k_steps
    rename News g' L' _ _ => NX
    rename Fr g' L' _ _ => FX
    have NY := news_front3 NX
    unfold Stop
    refine wpAny_call ?_
    k_dflt (refine' given_spec (i := i + 1 + (k : Int)) ⟨?hB, FX, ?hX, ?hT, ?hf, ?hk⟩ NY ?hd hI hns ?h0 ?h1 ?hm ?hm2 hWS ?hW ?zz2)
    case hB => k_asm
    case hX => k_asm
    case hT => k_asm
    case hf => exact rfl
    case hk => exact rfl
    case hd => k_room
    case h0 => omega
    case h1 => omega
    case hm => decide
    case hm2 => decide
    case hW =>
      intro q hq
      simp only [List.mem_cons] at hq
      rcases hq with rfl | rfl | rfl | rfl | rfl | rfl | hq
      · exact oW.1.symm
      · exact oW.2.1.symm
      · exact oW.2.2.symm
      · exact Nat.ne_of_gt u1
      · exact Nat.ne_of_gt (Nat.lt_succ_of_lt (Nat.lt_succ_of_lt lw))
      · exact Nat.ne_of_gt (Nat.lt_succ_of_lt lw)
      · exact hW q hq
    intro r2 tr2 tk4 tk5 h5 r20 r21 F5 N5
    obtain ⟨x, tx, hpx, hpl, hpo⟩ := pick r2 r20 r21
    clear NX NY FX
    dsimp only
    k_steps
    rename News g' L' _ _ => NX
    rename Fr g' L' _ _ => FX
    unfold Stop
    refine item_at (NX.isList (by k_mem)) r20 (by omega) hpx ?_
    k_unfold
    (try dsimp only)
    refine LCg.CompEnd.intro FX NX ((W, listOf #[.ref S, .int (i + 1 + (k : Int) + 1) tk4] n) :: TL) ?_ ⟨oW, off2⟩ trivial ⟨tk4, xs ++ [x], strsAre_snoc hS x tx, by rw [List.length_append, hl]; rfl, ?_, by rw [Int.natCast_succ, ← Int.add_assoc]⟩
    · intro q hq
      rw [eTL] at hq
      simp only [List.mem_cons] at hq ⊢
      rcases hq with hq | hq | hq | hq | hq | hq | hq | hq | hq <;> simp [hq]
    · intro y hy
      rcases List.mem_append.mp hy with hy | hy
      · exact hx6 y hy
      · rw [List.mem_singleton.mp hy]; exact ⟨hpl, hpo⟩
  case fin =>
    clear NX FX RX
    rintro ys _ ⟨tkj, xs, hS, hl, hx6, rfl⟩
    unfold LCg.FinE
    intro D9 h9 tk9 F9 N9 o9
    dsimp only
    k_steps
    rename News g' L' _ _ => NX
    have q6 := sum_six xs fun x hx => (hx6 x hx).1
    unfold Stop
    refine join_listW (NX.isList (.head _)) (by simpa using hS) (by decide +kernel) (by omega) ?_
    intro t8 k8
    k_steps
    rename Fr h₀ L _ m => kF
    rename News h₀ L _ _ => kN
    rw [eTL] at kN
    refine post (Txt.join (Str.ofString ",") xs) _ (i + 1 + (n0 : Int)) tkj _ _ [] ?_ ?_ (by omega) (by omega) kF (kN.perm (news' := (W, listOf #[.ref S, .int (i + 1 + (n0 : Int)) tkj] n) :: (S, listOf vs c) :: rest) fun q hq => ?_)
    · show (Builtin.Str.glued (Str.ofString ",") xs).length ≤ 100
      rw [StrLaws.glued_eq_join]
      have q7 := StrLaws.join_length_le (Str.ofString ",") xs
      have q8 : (Str.ofString ",").length = 1 := by decide +kernel
      rw [q8] at q7
      omega
    · show PyData.strOk (Builtin.Str.glued (Str.ofString ",") xs) = true
      rw [StrLaws.glued_eq_join]
      exact okS_join (by decide +kernel) xs fun x hx => (hx6 x hx).2
    · simp only [List.mem_cons] at hq ⊢
      rcases hq with hq | hq | hq <;> simp [hq]
end
theorem wd_A_28 : True := by
  k_with_none
  k_with "exec While" => (k_here; k_dflt (refine stop_while ?_))
  k_with "exec While BoolOp" => (k_here; k_dflt (refine stop_while ?_))
  k_with "exec While Compare" => (k_here; k_dflt (refine stop_while ?_))
  k_with "TurnEnd" => (dsimp only [TurnEnd])
  k_with "eval Name" => (k_here; k_dflt (refine' ld ?w9k1 ?w9k2 ?_; (case w9k1 => k_asm); (case w9k2 => (repeat refine Eq.trans (if_neg (by decide)) ?_); first | assumption | exact if_pos rfl); k_whole))
  k_with "loadName" => (k_here; k_dflt (refine' ldn ?w9k1 ?w9k2 ?_; (case w9k1 => k_asm); (case w9k2 => (repeat refine Eq.trans (if_neg (by decide)) ?_); first | assumption | exact if_pos rfl); k_whole))
  k_with "exec While Name" => (k_here; k_dflt (refine stop_while ?_))
  k_with "exec While Name cons nil" => (k_here; k_dflt (refine stop_while ?_))
  k_with "last exec While" => (k_here; k_dflt (refine stop_while ?_))
  k_with "exec For" => (k_here; k_dflt (refine stop_for ?_))
  k_with "exec For Tuple" => (k_here; k_dflt (refine stop_for ?_))
  k_with "exec For Tuple Call" => (k_here; k_dflt (refine stop_for ?_))
  k_with "exec For Tuple Call cons nil" => (k_here; k_dflt (refine stop_for ?_))
  k_with "exec For Name" => (k_here; k_dflt (refine stop_for ?_))
  k_with "exec For Name Name" => (k_here; k_dflt (refine stop_for ?_))
  k_with "exec For Name Name cons nil" => (k_here; k_dflt (refine stop_for ?_))
  k_with "exec For Name Call" => (k_here; k_dflt (refine stop_for ?_))
  k_with "exec For Name Call cons nil" => (k_here; k_dflt (refine stop_for ?_))
  k_with "call builtin:len" => (k_here; (with_reducible show wpAny _ _ (call (Value.builtin "len") [Value.ref _]) _ _ _); k_dflt (refine' len_led ?w9N ?w9m ?w9z ?_; (case w9N => k_asm); (case w9m => k_mem); (case w9z => omega); k_whole))
  k_with "call builtin:list.pop" => (k_here; (with_reducible show wpAny _ _ (call (Value.builtin _) [Value.ref _, Value.int _ _]) _ _ _); k_dflt (refine' pop_first ?w9F ?w9N ?w9U ?w9z ?_; (case w9F => k_asm); (case w9N => k_asm); (case w9U => k_upd); (case w9z => omega); k_whole); (intro h_w F_w N_w); (try k_sweep))
  k_with "leaving ref" => (k_here; first
      | (refine' leave_raiseS ?w9k1 ?w9k0 ?w9k2 ?w9k3 ?_; (case w9k0 => first | assumption | exact Heap.MadeExc.of (by assumption)); (case w9k2 => assumption); (case w9k1 => assumption); (case w9k3 => k_asm); k_whole; intro h_w t_w S_w R_w U_w; (try dsimp only at S_w R_w U_w ⊢))
      | (refine' leave_onS ?w9k1 ?w9k2 ?w9k3 ?w9k4 ?_; (case w9k3 => assumption); (case w9k1 => assumption); (case w9k4 => assumption); (case w9k2 => assumption); k_whole; intro h_w S_w R_w U_w; (try dsimp only at S_w R_w U_w ⊢)))
  k_with "call ref" => (k_here; (with_reducible show wpAny _ _ (call (Value.ref 71) _) _ _ _); refine wpAny_call ?_; k_dflt (refine' blank_end_spec ⟨?w9hB, ?w9hF, ?w9hX, ?w9hT, ?w9hf, ?w9hk⟩ ?w9hN ?w9hd ?w9hx ?w9h0 ?w9h1 ?_; (case w9hF => k_asm); (case w9hB => k_asm); (case w9hX => k_asm); (case w9hT => k_asm); (case w9hf => first | exact rfl | assumption); (case w9hk => first | exact rfl | assumption); (case w9hN => k_asm); (case w9hd => k_room); (case w9hx => first | assumption | omega); (case w9h0 => omega); (case w9h1 => omega); k_whole); intro tk_w tk_w_w h_w F_w N_w; (try k_sweep))
  k_with "call ref" => (k_here; (with_reducible show wpAny _ _ (call (Value.ref 78) _) _ _ _); refine wpAny_call ?_; k_dflt (refine' quoted_field_spec ⟨?w9hB, ?w9hF, ?w9hX, ?w9hT, ?w9hf, ?w9hk⟩ ?w9hN ?w9hd ?w9hx ?w9h0 ?w9h1 ?_; (case w9hF => k_asm); (case w9hB => k_asm); (case w9hX => k_asm); (case w9hT => k_asm); (case w9hf => first | exact rfl | assumption); (case w9hk => first | exact rfl | assumption); (case w9hN => k_asm); (case w9hd => k_room); (case w9hx => first | assumption | omega); (case w9h0 => omega); (case w9h1 => first | omega | exact slice_quote (by omega) (by assumption)); k_whole); intro D_w t1_w t2_w tk_w_w h_w hq_w l1_w F_w N_w; (try k_lt l1_w); (try k_sweep))
  k_with "call ref" => (k_here; (with_reducible show wpAny _ _ (call (Value.ref 85) _) _ _ _); refine wpAny_call ?_; k_dflt (refine' field_at_spec ⟨?w9hB, ?w9hF, ?w9hX, ?w9hT, ?w9hf, ?w9hk⟩ ?w9hN ?w9hd ?w9hx ?w9h0 ?w9h1 ?_; (case w9hF => k_asm); (case w9hB => k_asm); (case w9hX => k_asm); (case w9hT => k_asm); (case w9hf => first | exact rfl | assumption); (case w9hk => first | exact rfl | assumption); (case w9hN => k_asm); (case w9hd => k_room); (case w9hx => first | assumption | omega); (case w9h0 => omega); (case w9h1 => omega); k_whole); intro D_w v_w t2_w tk_w_w h_w ho_w l1_w F_w N_w; (try k_lt l1_w); (try k_sweep); ((rcases optV_cases ho_w with ⟨e_w, ev_w⟩ | ⟨y_w, t_w, e_w, ev_w⟩) <;> subst ev_w))
  k_with "call ref" => (k_here; (with_reducible show wpAny _ _ (call (Value.ref 92) _) _ _ _); refine wpAny_call ?_; k_dflt (refine' told_fields_spec ⟨?w9hB, ?w9hF, ?w9hX, ?w9hT, ?w9hf, ?w9hk⟩ ?w9hN ?w9hd ?w9hx ?_; (case w9hF => k_asm); (case w9hB => k_asm); (case w9hX => k_asm); (case w9hT => k_asm); (case w9hf => first | exact rfl | assumption); (case w9hk => first | exact rfl | assumption); (case w9hN => k_asm); (case w9hd => k_room); (case w9hx => first | assumption | omega); k_whole); intro v_w tk_w_w h_w ho_w F_w; (try k_sweep); ((rcases told_cases ho_w with ⟨e_w, ev_w, N_w⟩ | ⟨fs_w, l_w, vs_w, n_w, tl_w, e_w, ev_w, D_w, N_w, l1_w, l2_w, lf_w, ll_w, lv_w⟩) <;> subst ev_w <;> clear ho_w))
  k_with "call ref" => (k_here; (with_reducible show wpAny _ _ (call (Value.ref 180) _) _ _ _); refine wpAny_call ?_; k_dflt (refine' number_spec ⟨?w9hB, ?w9hF, ?w9hX, ?w9hT, ?w9hf, ?w9hk⟩ ?w9hN ?w9hd ?w9hu ?w9hx ?w9ho ?_; (case w9hF => k_asm); (case w9hB => k_asm); (case w9hX => k_asm); (case w9hT => k_asm); (case w9hf => first | exact rfl | assumption); (case w9hk => first | exact rfl | assumption); (case w9hN => k_asm); (case w9hd => k_room); (case w9hu => (dsimp only [Around.deeper, Around.in1, Around.mark]; omega)); (case w9hx => first | assumption | omega); (case w9ho => assumption); k_whole); intro v_w tk_w_w h_w ho_w N_w F_w; (try k_sweep))
  k_with "call ref" => (k_here; (with_reducible show wpAny _ _ (call (Value.ref 99) _) _ _ _); refine wpAny_call ?_; k_dflt (refine' value_spec ⟨?w9hB, ?w9hF, ?w9hX, ?w9hT, ?w9hf, ?w9hk⟩ ?w9hN ?w9hd ?w9hu ?w9hx ?w9ho ?_; (case w9hF => k_asm); (case w9hB => k_asm); (case w9hX => k_asm); (case w9hT => k_asm); (case w9hf => first | exact rfl | assumption); (case w9hk => first | exact rfl | assumption); (case w9hN => k_asm); (case w9hd => k_room); (case w9hu => (dsimp only [Around.deeper, Around.in1, Around.mark]; omega)); (case w9hx => first | assumption | omega); (case w9ho => assumption); k_whole); intro v_w tk_w_w h_w ho_w N_w F_w; (try k_sweep); ((rcases value_three ho_w with ⟨e_w, ev_w⟩ | ⟨y_w, t_w, e_w, ev_w⟩ | ⟨i_w, t_w, e_w, ev_w⟩) <;> subst ev_w))
  k_with "call ref" => (k_here; (with_reducible show wpAny _ _ (call (Value.ref 106) _) _ _ _); refine wpAny_call ?_; k_dflt (refine' fitted_spec ⟨?w9hB, ?w9hF, ?w9hX, ?w9hT, ?w9hf, ?w9hk⟩ ?w9hN ?w9hd ?w9hu ?w9hx ?w9ho ?w9hK ?w9hks ?w9hkl ?_; (case w9hF => k_asm); (case w9hB => k_asm); (case w9hX => k_asm); (case w9hT => k_asm); (case w9hf => first | exact rfl | assumption); (case w9hk => first | exact rfl | assumption); (case w9hN => k_asm); (case w9hd => k_room); (case w9hu => (dsimp only [Around.deeper, Around.in1, Around.mark]; omega)); (case w9hx => first | assumption | omega); (case w9ho => assumption); (case w9hK => k_mem); (case w9hks => assumption); (case w9hkl => assumption); k_whole); intro v_w tk_w_w h_w ho_w F_w; (try k_sweep); ((rcases fit_cases ho_w with ⟨e_w, ev_w, N_w⟩ | ⟨ds_w, l_w, vs_w, n_w, e_w, ev_w, D_w, N_w, l1_w⟩) <;> subst ev_w <;> clear ho_w))
  k_with "setAttr ref" => (k_here; k_dflt (refine' set_dict ?w9k1 ?w9k2 ?w9k3 ?w9k4 ?w9k5 ?w9k6 ?w9k7 ?w9k8 ?w9k9 ?w9k10 ?w9k11 ?w9k12 ?w9k13 ?_; (case w9k1 => k_asm); (case w9k2 => k_asm); (case w9k3 => k_asm); (case w9k4 => k_inst); (case w9k5 => exact rfl); (case w9k6 => k_is); (case w9k7 => k_is); (case w9k8 => k_is); (case w9k9 => k_is); (case w9k10 => k_get); (case w9k11 => exact rfl); (case w9k12 => k_upd); (case w9k13 => (repeat rw [putL_len (by k_get)]); omega); k_whole; intro h_w F_w N_w; (try k_sweep)))
  k_with "call builtin:len" => (k_here; (with_reducible show wpAny _ _ (call (Value.builtin "len") [Value.ref _]) _ _ _); k_dflt (first | (refine' len_ledC ?w9N ?w9m ?w9z ?_; (case w9N => k_asm); (case w9m => k_mem); (case w9z => omega); k_whole) | (refine' len_ledN ?w9N ?w9m ?_; (case w9N => k_asm); (case w9m => k_mem); k_whole)))
  k_with "call ref" => (k_here; (with_reducible show wpAny _ _ (call (Value.ref 120) _) _ _ _); refine wpAny_call ?_; k_dflt (refine' prompt_spec ⟨?w9hB, ?w9hF, ?w9hX, ?w9hT, ?w9hf, ?w9hk⟩ ?w9hN ?w9hd ?w9hW ?w9hO ?w9hol ?w9hp ?w9hpl ?w9hrl ?w9d1 ?w9d2 ?w9d3 ?w9d5 ?w9d6 ?w9r1 ?w9r2 ?_; (case w9hF => k_asm); (case w9hB => k_asm); (case w9hX => k_asm); (case w9hT => k_asm); (case w9hf => first | exact rfl | assumption); (case w9hk => first | exact rfl | assumption); (case w9hN => k_asm); (case w9hd => k_room); (case w9hW => assumption); (case w9hO => assumption); (case w9hol => omega); (case w9hp => assumption); (case w9hpl => assumption); (case w9hrl => assumption); (case w9d1 => assumption); (case w9d2 => assumption); (case w9d3 => assumption); (case w9d5 => assumption); (case w9d6 => assumption); (case w9r1 => assumption); (case w9r2 => assumption); k_whole); intro es_w n_w ovs_w no_w tk_w_w h_w hW_w hO_w hl_w F_w N_w; (try k_sweep); (obtain ⟨⟨tr_w, hr_w⟩, hi_w, ho_w, hlen_w⟩ := (id hW_w)))
  k_with "call ref" => (k_here; (with_reducible show wpAny _ _ (call (Value.ref 134) _) _ _ _); refine wpAny_call ?_; k_dflt (first
      | (refine' ask_line_wait ⟨?w9hB, ?w9hF, ?w9hX, ?w9hT, ?w9hf, ?w9hk⟩ ?w9hN ?w9hd ?w9hW ?_; (case w9hF => k_asm); (case w9hB => k_asm); (case w9hX => k_asm); (case w9hT => k_asm); (case w9hf => first | exact rfl | assumption); (case w9hk => first | exact rfl | assumption); (case w9hN => k_asm); (case w9hd => k_room); (case w9hW => assumption); k_whole; intro e_w t_w tk_w_w h_w g2_w FG2_w U2_w R2_w; (try dsimp only))
      | (refine' ask_line_spec ⟨?w9hB, ?w9hF, ?w9hX, ?w9hT, ?w9hf, ?w9hk⟩ ?w9hN ?w9hd ?w9hW ?w9hrr ?w9hil ?w9hO ?w9hol ?w9hp ?w9hpl ?w9hrl ?w9d1 ?w9d2 ?w9d3 ?w9d4 ?w9d5 ?w9d6 ?w9r1 ?w9r2 ?w9r3 ?_; (case w9hF => k_asm); (case w9hB => k_asm); (case w9hX => k_asm); (case w9hT => k_asm); (case w9hf => first | exact rfl | assumption); (case w9hk => first | exact rfl | assumption); (case w9hN => k_asm); (case w9hd => k_room); (case w9hW => assumption); (case w9hrr => assumption); (case w9hil => omega); (case w9hO => assumption); (case w9hol => omega); (case w9hp => assumption); (case w9hpl => assumption); (case w9hrl => assumption); (case w9d1 => assumption); (case w9d2 => assumption); (case w9d3 => assumption); (case w9d4 => assumption); (case w9d5 => assumption); (case w9d6 => assumption); (case w9r1 => assumption); (case w9r2 => assumption); (case w9r3 => assumption); k_whole; intro es_w n_w ovs_w no_w tk_w_w h_w hW_w hO_w hl_w F_w N_w; (try dsimp only)); (try k_sweep)))
  k_with "call ref" => (k_here; (with_reducible show wpAny _ _ (call (Value.ref 127) _) _ _ _); refine wpAny_call ?_; k_dflt (refine' ask_values_spec ⟨?w9hB, ?w9hF, ?w9hX, ?w9hT, ?w9hf, ?w9hk⟩ ?w9hN ?w9hd ?w9hu ?w9hW ?w9hI ?w9hir ?w9hO ?w9hol ?w9hp ?w9hpl ?w9hrl ?w9hK ?w9hks ?w9hkl ?w9d1 ?w9d2 ?w9d3 ?w9d4 ?w9d5 ?w9d6 ?w9r1 ?w9r2 ?w9r3 (fun ds_w outs_w row_w ins_w h_w tk_w l_w vs_w nl_w es_w n_w ivs_w ni_w ovs_w no_w e_w hW_w hI_w hO_w hol_w hds_w F_w N_w l1_w l2_w l3_w l4_w l5 => ?_) (fun outs_w row_w h_w tk_w e_w t_w es_w n_w ivs_w ni_w ovs_w no_w g2_w ee_w hW_w hI_w hO_w hol_w hrl_w FG2_w U2_w R2_w => ?_); (case w9hF => k_asm); (case w9hB => k_asm); (case w9hX => k_asm); (case w9hT => k_asm); (case w9hf => first | exact rfl | assumption); (case w9hk => first | exact rfl | assumption); (case w9hN => k_asm); (case w9hd => k_room); (case w9hu => (dsimp only [Around.deeper, Around.in1, Around.mark]; omega)); (case w9hW => assumption); (case w9hI => assumption); (case w9hir => assumption); (case w9hO => assumption); (case w9hol => omega); (case w9hp => assumption); (case w9hpl => assumption); (case w9hrl => assumption); (case w9hK => k_mem); (case w9hks => assumption); (case w9hkl => assumption); (case w9d1 => assumption); (case w9d2 => assumption); (case w9d3 => assumption); (case w9d4 => assumption); (case w9d5 => assumption); (case w9d6 => assumption); (case w9r1 => assumption); (case w9r2 => assumption); (case w9r3 => assumption); (try dsimp only); (try k_sweep)))
  k_with "subscriptTail Name Slice ref ref" => (k_here; (with_reducible show wpAny _ _ (subscriptTail _ (PySem.Expr.Slice _ _ none _) (Value.ref _) (Value.ref _)) _ _ _); k_dflt (refine' kms_slice_lit ?w9F ?w9N ?w9l ?w9p ?w9q ?w9e ?_ ?w9s ?w9t ?w9z; (case w9F => k_asm); (case w9N => k_asm); (case w9l => kmk_list); (case w9p => kmk_part); (case w9q => kmk_part); (case w9e => first | exact pick_all _ | exact pick_first _ | exact pick_rest _ | exact pick_init _); (case w9s => with_unfolding_all rfl); (case w9t => kmk_pure); (case w9z => rw [List.size_toArray, sizeLine_eq]; omega)); intro D_w h_w F_w N_w l1_w; (try k_lt l1_w); (try k_sweep))
  k_with "call ref" => (k_here; (with_reducible show wpAny _ _ (call (Value.ref 194) _) _ _ _); refine wpAny_call ?_; k_dflt (refine' state_spec ⟨?w9hB, ?w9hF, ?w9hX, ?w9hT, ?w9hf, ?w9hk⟩ ?w9hN ?w9hd ?w9hW ?w9hI ?w9hO ?w9hol ?w9hil ?_; (case w9hF => k_asm); (case w9hB => k_asm); (case w9hX => k_asm); (case w9hT => k_asm); (case w9hf => first | exact rfl | assumption); (case w9hk => first | exact rfl | assumption); (case w9hN => k_asm); (case w9hd => k_room); (case w9hW => assumption); (case w9hI => assumption); (case w9hO => assumption); (case w9hol => omega); (case w9hil => omega); k_whole); intro D_w D1_w D2_w t_w h_w tk_w q1_w q2_w q3_w F_w N_w; (try simp only [AllLt] at q3_w); (try k_sweep))
  k_with "call ref" => (k_here; (with_reducible show wpAny _ _ (call (Value.ref 152) _ _) _ _ _); k_dflt (refine' world_spec ⟨?w9hB, ?w9hF, ?w9hX, ?w9hT, ?w9hf, ?w9hk⟩ ?w9hN ?w9hd ?_; (case w9hF => k_asm); (case w9hB => k_asm); (case w9hX => k_asm); (case w9hT => k_asm); (case w9hf => first | exact rfl | assumption); (case w9hk => first | exact rfl | assumption); (case w9hN => k_asm); (case w9hd => k_room); k_whole); intro dx_w x_w io_w oo_w es_w n_w tk_w h_w hW_w q1_w q2_w q3_w q4_w F_w N_w; (try k_sweep); (obtain ⟨⟨tr_w, hr_w⟩, hi_w, ho_w, hlen_w⟩ := (id hW_w)))
  trivial
theorem off_Ak0 : True := by
  w_top off
  trivial
section
variable {w : World} {hd : Option Value} {dp un : Nat} {gd : Option (List Code)} {env : Env} {outer : List Env} {A₀ : Around} {base h₀ : Heap} {L : Addr} {m : Str → Option Value}
    {p : Program} {loose : List Str} {mean : ExcName → Option Value} {mg mb : Str → Option Value} {s : Shared} {R : Result → Shared → Prop}
    {rest : List (Addr × Obj)}
/-- what _law_gone gave, opened -/
structure GoneAt (l : List (Addr × Obj)) (T F S c : Nat) (fvs : List Value) (nf : Nat) (found : List (List Dat × Nat)) (st : List Str × Str × List Str) : Prop where
  t : (T, ({ cls := .type "tuple", data := .seq #[.ref F, .ref S] c } : Obj)) ∈ l
  f : (F, listOf fvs.toArray nf) ∈ l
  d : DatAll l fvs (foundL found)
  s : DatIn l (.ref S) (stateD st)
theorem goneD_open {l : List (Addr × Obj)} {v : Value} {r : List (List Dat × Nat) × List Str × Str × List Str} (h : DatIn l v (goneD r)) : ∃ (T F S c : Nat) (fvs : List Value) (nf : Nat), v = .ref T ∧ GoneAt l T F S c fvs nf r.1 r.2 := by
  unfold goneD foundD stateD at h
  cases h with
  | tuple ht hd =>
    cases hd with
    | cons h1 hd =>
      cases hd with
      | cons h2 hd =>
        cases hd
        cases h1 with
        | list hf ha =>
          cases h2 with
          | tuple hs hb => exact ⟨_, _, _, _, _, _, rfl, ht, hf, ha, .tuple hs hb⟩
theorem GoneAt.mono {l l' : List (Addr × Obj)} {T F S c : Nat} {fvs : List Value} {nf : Nat} {found : List (List Dat × Nat)} {st : List Str × Str × List Str} (h : GoneAt l T F S c fvs nf found st) (sub : ∀ p ∈ l, p ∈ l') : GoneAt l' T F S c fvs nf found st :=
  ⟨sub _ h.t, sub _ h.f, h.d.mono sub, h.s.mono sub⟩
/-- an answer of the list -/
theorem found_get {l : List (Addr × Obj)} {fvs : List Value} {found : List (List Dat × Nat)} (h : DatAll l fvs (foundL found)) : ∀ {i : Nat} {v : Value}, fvs[i]? = some v → ∃ (a c la nl : Nat) (ti : Tok) (vs : List Value) (f : List Dat × Nat), v = .ref a ∧
    (a, ({ cls := .type "tuple", data := .seq #[.ref la, .int f.2 ti] c } : Obj)) ∈ l ∧ (la, listOf vs.toArray nl) ∈ l ∧ DatAll l vs f.1 ∧ found[i]? = some f := by
  induction found generalizing fvs with
  | nil => cases h; intro i v e; simp at e
  | cons f found ih =>
    unfold foundL at h
    rw [List.map_cons] at h
    cases h with
    | cons h1 h2 =>
      intro i v e
      cases i with
      | zero =>
        simp at e
        subst e
        cases h1 with
        | tuple ht hd =>
          cases hd with
          | cons h3 hd =>
            cases hd with
            | cons h4 hd =>
              cases hd
              cases h3 with
              | list hl ha =>
                cases h4
                exact ⟨_, _, _, _, _, _, f, rfl, ht, hl, ha, rfl⟩
      | succ i => exact ih h2 (by simpa using e)
def toldL (found : List (List Dat × Nat)) : List Dat := found.map fun f => .list f.1
theorem toldL_take {found : List (List Dat × Nat)} {k : Nat} {f : List Dat × Nat} (h : found[k]? = some f) : (toldL found).take (k + 1) = (toldL found).take k ++ [.list f.1] := by
  rw [List.take_add_one]
  unfold toldL
  rw [List.getElem?_map, h]
  rfl
theorem found_len {l : List (Addr × Obj)} {fvs : List Value} {found : List (List Dat × Nat)} (h : DatAll l fvs (foundL found)) : fvs.length = found.length := by
  have := h.length
  unfold foundL at this
  rwa [List.length_map] at this
theorem toldL_ok {found : List (List Dat × Nat)} (h : ∀ f ∈ found, ∀ d ∈ f.1, kqdOk 0 d = true) : kqdOk 9 (.list (toldL found)) = true := okD_list fun d hd => by
  obtain ⟨f, hf, rfl⟩ := List.mem_map.mp hd
  exact okD_list fun d hd => okD_up (h f hf d hd)
theorem toldL_eq {f1 f2 : List (List Dat × Nat)} (h : f1.map (·.1) = f2.map (·.1)) : toldL f1 = toldL f2 := by
  have e : ∀ f : List (List Dat × Nat), toldL f = (f.map (·.1)).map Dat.list := fun f => by unfold toldL; rw [List.map_map]; rfl
  rw [e, e, h]
theorem wd_A_29 : True := by
  k_with "CompSrc" => (k_here; refine stop_any ?_)
  k_with "compareOp Eq ref ref" => (k_here; (with_reducible show wpAny _ _ (compareOp CmpOp.Eq (Value.ref _) (Value.ref _)) _ _ _); refine stop_any ?_)
  k_with "subscriptTail Name Constant ref int" => (k_here; (with_reducible show wpAny _ _ (subscriptTail _ _ (Value.ref _) (Value.int _ _)) _ _ _); k_dflt (refine' kim_tup (lo := { cls := .type "tuple", data := .seq _ _ }) ?w9N ?w9hm ?w9hc ?w9hd ?w9hlo ?w9hhi ?w9hj ?w9hx ?_; (case w9N => k_asm); (case w9hm => k_mem); (case w9hc => rfl); (case w9hd => rfl); (case w9hlo => decide); (case w9hhi => decide); (case w9hj => rfl); (case w9hx => rfl); k_whole))
  trivial
theorem alike_spec {T1 F1 S1 c1 nf1 T2 F2 S2 c2 nf2 : Nat} {fvs1 fvs2 : List Value} {found1 found2 : List (List Dat × Nat)} {st1 st2 : List Str × Str × List Str}
    (H : Here w A₀ base outer h₀ L m p loose mean mg mb env s)
    (N : News h₀ L s.heap rest)
    (hdp : dp + 20 < recursionLimit) (hun : un + 100 < cLine)
    (G1 : GoneAt rest T1 F1 S1 c1 fvs1 nf1 found1 st1) (G2 : GoneAt rest T2 F2 S2 c2 fvs2 nf2 found2 st2)
    (hst : st1 = st2) (hfo : found1.map (·.1) = found2.map (·.1)) (ok1 : kqdOk 9 (stateD st1) = true) (ok2 : ∀ f ∈ found1, ∀ d ∈ f.1, kqdOk 0 d = true) (hz : found1.length ≤ 1000)
    (post : ∀ h' tk, Fr h₀ L h' m → News h₀ L h' rest → R (.ok (.ret (.bool true))) { s with heap := h', toks := tk }) :
    codeAny (model Challenge.rw_sm0001_01.row.prog w) (At none dp un gd env outer) (.call (.ref 206) ⟨[.ref T1, .ref T2], []⟩) R s := by
  obtain ⟨g1t, g1f, g1d, g1s⟩ := G1
  obtain ⟨g2t, g2f, g2d, g2s⟩ := G2
  subst hst
  obtain ⟨B, F, X, T, hf, hke⟩ := H
  refine' code_def (A := At none dp un gd env outer) (env := env) (outer := outer) B F X N T rfl hf hke ?k6 ?k7 ?hroom ?k9 ?kB ?_ ?c2 ?c3 ?c4 ?c5
  case k6 => k_dflt k_is
  case k7 => k_dflt k_is
  case hroom => k_room
  case k9 => exact BindsTo.of_eq rfl
  case c5 => decide
  case kB => exact locs rfl
  case c2 => exact rfl
  case c3 => exact rfl
  case c4 => exact rfl
  intro g' L' h' FG' F' N' B' X' T'
  dsimp only
  k_fold
  have hl1 := found_len g1d
  have hl2 := found_len g2d
  have hl3 : found2.length = found1.length := by
    have := congrArg List.length hfo
    rw [List.length_map, List.length_map] at this
    exact this.symm
  k_steps
  rename News g' L' _ _ => NX
  unfold Stop
  refine dat_eq (d := stateD st1) (e := stateD st1) NX g1s (fun _ h => h) g2s (fun _ h => h) ok1 ok1 (by dsimp only [Around.deeper, Around.in1, Around.mark]; omega) fun r hr => ?_
  have hr1 : r = true := hr.mpr rfl
  subst hr1

  k_steps
  rename News g' L' _ _ => NX
  rename Fr g' L' _ _ => FX
  unfold Stop
  refine LCg.CompSrc.ledger (by rfl) FX NX (its := fvs1.toArray) (k := nf1) (by k_mem) (by rw [sizeLine_eq, List.size_toArray]; omega) (fun g0 => comp_turns fvs1.toArray.size (fun i ys news => DatAll rest ys ((toldL found1).take i) ∧ news = rest) ?turn1 ?fin1 _ 0 [] _ (Nat.zero_add _) ?h1)
  case h1 => exact ⟨by rw [List.take_zero]; exact .nil, rfl⟩
  case turn1 =>
    clear NX FX
    rintro i ys nw hi ⟨hys, hnw⟩ v I oI C oC D m₂ h tk9 E' hv hC hm9 F9 N9 off ne
    rw [hnw] at N9 off
    obtain ⟨a, ca, la, nl, ti, vs, f, rfl, hat, hal, had, hfi⟩ := found_get g1d (i := i) (v := v) (by simpa using hv)
    k_steps
    rename News g' L' _ _ => NX
    rename Fr g' L' _ _ => FX
    refine LCg.CompEnd.intro FX NX (rest) (fun q hq => hq) off ?_ ⟨?_, rfl⟩
    · exact .inr ⟨_, by k_mem, rfl, _, rfl⟩
    · rw [toldL_take hfi]
      exact hys.append (.one (.list hal had))
  case fin1 =>
    clear NX FX
    rintro ys1 nw ⟨hys1, hnw⟩
    rw [hnw]
    have e1 : (toldL found1).take fvs1.toArray.size = toldL found1 := List.take_of_length_le (by unfold toldL; rw [List.length_map, List.size_toArray, hl1]; exact Nat.le_refl _)
    rw [e1] at hys1
    unfold LCg.FinE
    intro D1 h1 tk1 F9 N9 o1
    dsimp only
    k_steps
    rename News g' L' _ _ => NX
    rename Fr g' L' _ _ => FX
    unfold Stop
    refine LCg.CompSrc.ledger (by rfl) FX NX (its := fvs2.toArray) (k := nf2) (by k_mem) (by rw [sizeLine_eq, List.size_toArray]; omega) (fun g0 => comp_turns fvs2.toArray.size (fun i ys news => DatAll rest ys ((toldL found2).take i) ∧ news = (D1, LCg.lst ys1) :: rest) ?turn2 ?fin2 _ 0 [] _ (Nat.zero_add _) ?h2)
    case h2 => exact ⟨by rw [List.take_zero]; exact .nil, rfl⟩
    case turn2 =>
      clear NX FX
      rintro i ys nw hi ⟨hys, hnw⟩ v I oI C oC D m₂ h tk9 E' hv hC hm9 F9 N9 off ne
      rw [hnw] at N9 off
      obtain ⟨a, ca, la, nl, ti, vs, f, rfl, hat, hal, had, hfi⟩ := found_get g2d (i := i) (v := v) (by simpa using hv)
      k_steps
      rename News g' L' _ _ => NX
      rename Fr g' L' _ _ => FX
      refine LCg.CompEnd.intro FX NX ((D1, LCg.lst ys1) :: rest) (fun q hq => hq) off ?_ ⟨?_, rfl⟩
      · exact .inr ⟨_, by k_mem, rfl, _, rfl⟩
      · rw [toldL_take hfi]
        exact hys.append (.one (.list hal had))
    case fin2 =>
      clear NX FX
      rintro ys2 nw ⟨hys2, hnw⟩
      rw [hnw]
      have e2 : (toldL found2).take fvs2.toArray.size = toldL found2 := List.take_of_length_le (by unfold toldL; rw [List.length_map, List.size_toArray, hl2]; exact Nat.le_refl _)
      rw [e2] at hys2
      unfold LCg.FinE
      intro D2 h2 tk2 F9 N9 o2
      dsimp only
      k_steps
      rename News g' L' _ _ => NX
      unfold Stop
      refine dat_eq (d := .list (toldL found1)) (e := .list (toldL found2)) NX (DatIn.list (n := ys1.length) (by k_mem) (hys1.mono fun _ h => .tail _ (.tail _ h))) (fun _ h => h) (DatIn.list (n := ys2.length) (by k_mem) (hys2.mono fun _ h => .tail _ (.tail _ h))) (fun _ h => h) (toldL_ok ok2) (toldL_eq hfo ▸ toldL_ok ok2) (by dsimp only [Around.deeper, Around.in1, Around.mark]; omega) fun r hr => ?_
      have hr1 : r = true := hr.mpr (by rw [toldL_eq hfo])
      subst hr1
      k_steps
      rename Fr h₀ L _ m => kF
      rename News h₀ L _ _ => kN
      exact post _ _ kF (kN.perm fun q hq => .tail _ (.tail _ hq))
end
theorem wd_A_30 : True := by
  k_with_none
  k_with "exec While" => (k_here; k_dflt (refine stop_while ?_))
  k_with "exec While BoolOp" => (k_here; k_dflt (refine stop_while ?_))
  k_with "exec While Compare" => (k_here; k_dflt (refine stop_while ?_))
  k_with "TurnEnd" => (dsimp only [TurnEnd])
  k_with "eval Name" => (k_here; k_dflt (refine' ld ?w9k1 ?w9k2 ?_; (case w9k1 => k_asm); (case w9k2 => (repeat refine Eq.trans (if_neg (by decide)) ?_); first | assumption | exact if_pos rfl); k_whole))
  k_with "loadName" => (k_here; k_dflt (refine' ldn ?w9k1 ?w9k2 ?_; (case w9k1 => k_asm); (case w9k2 => (repeat refine Eq.trans (if_neg (by decide)) ?_); first | assumption | exact if_pos rfl); k_whole))
  k_with "exec While Name" => (k_here; k_dflt (refine stop_while ?_))
  k_with "exec While Name cons nil" => (k_here; k_dflt (refine stop_while ?_))
  k_with "last exec While" => (k_here; k_dflt (refine stop_while ?_))
  k_with "exec For" => (k_here; k_dflt (refine stop_for ?_))
  k_with "exec For Tuple" => (k_here; k_dflt (refine stop_for ?_))
  k_with "exec For Tuple Call" => (k_here; k_dflt (refine stop_for ?_))
  k_with "exec For Tuple Call cons nil" => (k_here; k_dflt (refine stop_for ?_))
  k_with "exec For Name" => (k_here; k_dflt (refine stop_for ?_))
  k_with "exec For Name Name" => (k_here; k_dflt (refine stop_for ?_))
  k_with "exec For Name Name cons nil" => (k_here; k_dflt (refine stop_for ?_))
  k_with "exec For Name Call" => (k_here; k_dflt (refine stop_for ?_))
  k_with "exec For Name Call cons nil" => (k_here; k_dflt (refine stop_for ?_))
  k_with "call builtin:len" => (k_here; (with_reducible show wpAny _ _ (call (Value.builtin "len") [Value.ref _]) _ _ _); k_dflt (refine' len_led ?w9N ?w9m ?w9z ?_; (case w9N => k_asm); (case w9m => k_mem); (case w9z => omega); k_whole))
  k_with "call builtin:list.pop" => (k_here; (with_reducible show wpAny _ _ (call (Value.builtin _) [Value.ref _, Value.int _ _]) _ _ _); k_dflt (refine' pop_first ?w9F ?w9N ?w9U ?w9z ?_; (case w9F => k_asm); (case w9N => k_asm); (case w9U => k_upd); (case w9z => omega); k_whole); (intro h_w F_w N_w); (try k_sweep))
  k_with "leaving ref" => (k_here; first
      | (refine' leave_raiseS ?w9k1 ?w9k0 ?w9k2 ?w9k3 ?_; (case w9k0 => first | assumption | exact Heap.MadeExc.of (by assumption)); (case w9k2 => assumption); (case w9k1 => assumption); (case w9k3 => k_asm); k_whole; intro h_w t_w S_w R_w U_w; (try dsimp only at S_w R_w U_w ⊢))
      | (refine' leave_onS ?w9k1 ?w9k2 ?w9k3 ?w9k4 ?_; (case w9k3 => assumption); (case w9k1 => assumption); (case w9k4 => assumption); (case w9k2 => assumption); k_whole; intro h_w S_w R_w U_w; (try dsimp only at S_w R_w U_w ⊢)))
  k_with "call ref" => (k_here; (with_reducible show wpAny _ _ (call (Value.ref 71) _) _ _ _); refine wpAny_call ?_; k_dflt (refine' blank_end_spec ⟨?w9hB, ?w9hF, ?w9hX, ?w9hT, ?w9hf, ?w9hk⟩ ?w9hN ?w9hd ?w9hx ?w9h0 ?w9h1 ?_; (case w9hF => k_asm); (case w9hB => k_asm); (case w9hX => k_asm); (case w9hT => k_asm); (case w9hf => first | exact rfl | assumption); (case w9hk => first | exact rfl | assumption); (case w9hN => k_asm); (case w9hd => k_room); (case w9hx => first | assumption | omega); (case w9h0 => omega); (case w9h1 => omega); k_whole); intro tk_w tk_w_w h_w F_w N_w; (try k_sweep))
  k_with "call ref" => (k_here; (with_reducible show wpAny _ _ (call (Value.ref 78) _) _ _ _); refine wpAny_call ?_; k_dflt (refine' quoted_field_spec ⟨?w9hB, ?w9hF, ?w9hX, ?w9hT, ?w9hf, ?w9hk⟩ ?w9hN ?w9hd ?w9hx ?w9h0 ?w9h1 ?_; (case w9hF => k_asm); (case w9hB => k_asm); (case w9hX => k_asm); (case w9hT => k_asm); (case w9hf => first | exact rfl | assumption); (case w9hk => first | exact rfl | assumption); (case w9hN => k_asm); (case w9hd => k_room); (case w9hx => first | assumption | omega); (case w9h0 => omega); (case w9h1 => first | omega | exact slice_quote (by omega) (by assumption)); k_whole); intro D_w t1_w t2_w tk_w_w h_w hq_w l1_w F_w N_w; (try k_lt l1_w); (try k_sweep))
  k_with "call ref" => (k_here; (with_reducible show wpAny _ _ (call (Value.ref 85) _) _ _ _); refine wpAny_call ?_; k_dflt (refine' field_at_spec ⟨?w9hB, ?w9hF, ?w9hX, ?w9hT, ?w9hf, ?w9hk⟩ ?w9hN ?w9hd ?w9hx ?w9h0 ?w9h1 ?_; (case w9hF => k_asm); (case w9hB => k_asm); (case w9hX => k_asm); (case w9hT => k_asm); (case w9hf => first | exact rfl | assumption); (case w9hk => first | exact rfl | assumption); (case w9hN => k_asm); (case w9hd => k_room); (case w9hx => first | assumption | omega); (case w9h0 => omega); (case w9h1 => omega); k_whole); intro D_w v_w t2_w tk_w_w h_w ho_w l1_w F_w N_w; (try k_lt l1_w); (try k_sweep); ((rcases optV_cases ho_w with ⟨e_w, ev_w⟩ | ⟨y_w, t_w, e_w, ev_w⟩) <;> subst ev_w))
  k_with "call ref" => (k_here; (with_reducible show wpAny _ _ (call (Value.ref 92) _) _ _ _); refine wpAny_call ?_; k_dflt (refine' told_fields_spec ⟨?w9hB, ?w9hF, ?w9hX, ?w9hT, ?w9hf, ?w9hk⟩ ?w9hN ?w9hd ?w9hx ?_; (case w9hF => k_asm); (case w9hB => k_asm); (case w9hX => k_asm); (case w9hT => k_asm); (case w9hf => first | exact rfl | assumption); (case w9hk => first | exact rfl | assumption); (case w9hN => k_asm); (case w9hd => k_room); (case w9hx => first | assumption | omega); k_whole); intro v_w tk_w_w h_w ho_w F_w; (try k_sweep); ((rcases told_cases ho_w with ⟨e_w, ev_w, N_w⟩ | ⟨fs_w, l_w, vs_w, n_w, tl_w, e_w, ev_w, D_w, N_w, l1_w, l2_w, lf_w, ll_w, lv_w⟩) <;> subst ev_w <;> clear ho_w))
  k_with "call ref" => (k_here; (with_reducible show wpAny _ _ (call (Value.ref 180) _) _ _ _); refine wpAny_call ?_; k_dflt (refine' number_spec ⟨?w9hB, ?w9hF, ?w9hX, ?w9hT, ?w9hf, ?w9hk⟩ ?w9hN ?w9hd ?w9hu ?w9hx ?w9ho ?_; (case w9hF => k_asm); (case w9hB => k_asm); (case w9hX => k_asm); (case w9hT => k_asm); (case w9hf => first | exact rfl | assumption); (case w9hk => first | exact rfl | assumption); (case w9hN => k_asm); (case w9hd => k_room); (case w9hu => (dsimp only [Around.deeper, Around.in1, Around.mark]; omega)); (case w9hx => first | assumption | omega); (case w9ho => assumption); k_whole); intro v_w tk_w_w h_w ho_w N_w F_w; (try k_sweep))
  k_with "call ref" => (k_here; (with_reducible show wpAny _ _ (call (Value.ref 99) _) _ _ _); refine wpAny_call ?_; k_dflt (refine' value_spec ⟨?w9hB, ?w9hF, ?w9hX, ?w9hT, ?w9hf, ?w9hk⟩ ?w9hN ?w9hd ?w9hu ?w9hx ?w9ho ?_; (case w9hF => k_asm); (case w9hB => k_asm); (case w9hX => k_asm); (case w9hT => k_asm); (case w9hf => first | exact rfl | assumption); (case w9hk => first | exact rfl | assumption); (case w9hN => k_asm); (case w9hd => k_room); (case w9hu => (dsimp only [Around.deeper, Around.in1, Around.mark]; omega)); (case w9hx => first | assumption | omega); (case w9ho => assumption); k_whole); intro v_w tk_w_w h_w ho_w N_w F_w; (try k_sweep); ((rcases value_three ho_w with ⟨e_w, ev_w⟩ | ⟨y_w, t_w, e_w, ev_w⟩ | ⟨i_w, t_w, e_w, ev_w⟩) <;> subst ev_w))
  k_with "call ref" => (k_here; (with_reducible show wpAny _ _ (call (Value.ref 106) _) _ _ _); refine wpAny_call ?_; k_dflt (refine' fitted_spec ⟨?w9hB, ?w9hF, ?w9hX, ?w9hT, ?w9hf, ?w9hk⟩ ?w9hN ?w9hd ?w9hu ?w9hx ?w9ho ?w9hK ?w9hks ?w9hkl ?_; (case w9hF => k_asm); (case w9hB => k_asm); (case w9hX => k_asm); (case w9hT => k_asm); (case w9hf => first | exact rfl | assumption); (case w9hk => first | exact rfl | assumption); (case w9hN => k_asm); (case w9hd => k_room); (case w9hu => (dsimp only [Around.deeper, Around.in1, Around.mark]; omega)); (case w9hx => first | assumption | omega); (case w9ho => assumption); (case w9hK => k_mem); (case w9hks => assumption); (case w9hkl => assumption); k_whole); intro v_w tk_w_w h_w ho_w F_w; (try k_sweep); ((rcases fit_cases ho_w with ⟨e_w, ev_w, N_w⟩ | ⟨ds_w, l_w, vs_w, n_w, e_w, ev_w, D_w, N_w, l1_w⟩) <;> subst ev_w <;> clear ho_w))
  k_with "setAttr ref" => (k_here; k_dflt (refine' set_dict ?w9k1 ?w9k2 ?w9k3 ?w9k4 ?w9k5 ?w9k6 ?w9k7 ?w9k8 ?w9k9 ?w9k10 ?w9k11 ?w9k12 ?w9k13 ?_; (case w9k1 => k_asm); (case w9k2 => k_asm); (case w9k3 => k_asm); (case w9k4 => k_inst); (case w9k5 => exact rfl); (case w9k6 => k_is); (case w9k7 => k_is); (case w9k8 => k_is); (case w9k9 => k_is); (case w9k10 => k_get); (case w9k11 => exact rfl); (case w9k12 => k_upd); (case w9k13 => (repeat rw [putL_len (by k_get)]); omega); k_whole; intro h_w F_w N_w; (try k_sweep)))
  k_with "call builtin:len" => (k_here; (with_reducible show wpAny _ _ (call (Value.builtin "len") [Value.ref _]) _ _ _); k_dflt (first | (refine' len_ledC ?w9N ?w9m ?w9z ?_; (case w9N => k_asm); (case w9m => k_mem); (case w9z => omega); k_whole) | (refine' len_ledN ?w9N ?w9m ?_; (case w9N => k_asm); (case w9m => k_mem); k_whole)))
  k_with "call ref" => (k_here; (with_reducible show wpAny _ _ (call (Value.ref 120) _) _ _ _); refine wpAny_call ?_; k_dflt (refine' prompt_spec ⟨?w9hB, ?w9hF, ?w9hX, ?w9hT, ?w9hf, ?w9hk⟩ ?w9hN ?w9hd ?w9hW ?w9hO ?w9hol ?w9hp ?w9hpl ?w9hrl ?w9d1 ?w9d2 ?w9d3 ?w9d5 ?w9d6 ?w9r1 ?w9r2 ?_; (case w9hF => k_asm); (case w9hB => k_asm); (case w9hX => k_asm); (case w9hT => k_asm); (case w9hf => first | exact rfl | assumption); (case w9hk => first | exact rfl | assumption); (case w9hN => k_asm); (case w9hd => k_room); (case w9hW => assumption); (case w9hO => assumption); (case w9hol => omega); (case w9hp => assumption); (case w9hpl => assumption); (case w9hrl => assumption); (case w9d1 => assumption); (case w9d2 => assumption); (case w9d3 => assumption); (case w9d5 => assumption); (case w9d6 => assumption); (case w9r1 => assumption); (case w9r2 => assumption); k_whole); intro es_w n_w ovs_w no_w tk_w_w h_w hW_w hO_w hl_w F_w N_w; (try k_sweep); (obtain ⟨⟨tr_w, hr_w⟩, hi_w, ho_w, hlen_w⟩ := (id hW_w)))
  k_with "call ref" => (k_here; (with_reducible show wpAny _ _ (call (Value.ref 134) _) _ _ _); refine wpAny_call ?_; k_dflt (first
      | (refine' ask_line_wait ⟨?w9hB, ?w9hF, ?w9hX, ?w9hT, ?w9hf, ?w9hk⟩ ?w9hN ?w9hd ?w9hW ?_; (case w9hF => k_asm); (case w9hB => k_asm); (case w9hX => k_asm); (case w9hT => k_asm); (case w9hf => first | exact rfl | assumption); (case w9hk => first | exact rfl | assumption); (case w9hN => k_asm); (case w9hd => k_room); (case w9hW => assumption); k_whole; intro e_w t_w tk_w_w h_w g2_w FG2_w U2_w R2_w; (try dsimp only))
      | (refine' ask_line_spec ⟨?w9hB, ?w9hF, ?w9hX, ?w9hT, ?w9hf, ?w9hk⟩ ?w9hN ?w9hd ?w9hW ?w9hrr ?w9hil ?w9hO ?w9hol ?w9hp ?w9hpl ?w9hrl ?w9d1 ?w9d2 ?w9d3 ?w9d4 ?w9d5 ?w9d6 ?w9r1 ?w9r2 ?w9r3 ?_; (case w9hF => k_asm); (case w9hB => k_asm); (case w9hX => k_asm); (case w9hT => k_asm); (case w9hf => first | exact rfl | assumption); (case w9hk => first | exact rfl | assumption); (case w9hN => k_asm); (case w9hd => k_room); (case w9hW => assumption); (case w9hrr => assumption); (case w9hil => omega); (case w9hO => assumption); (case w9hol => omega); (case w9hp => assumption); (case w9hpl => assumption); (case w9hrl => assumption); (case w9d1 => assumption); (case w9d2 => assumption); (case w9d3 => assumption); (case w9d4 => assumption); (case w9d5 => assumption); (case w9d6 => assumption); (case w9r1 => assumption); (case w9r2 => assumption); (case w9r3 => assumption); k_whole; intro es_w n_w ovs_w no_w tk_w_w h_w hW_w hO_w hl_w F_w N_w; (try dsimp only)); (try k_sweep)))
  k_with "call ref" => (k_here; (with_reducible show wpAny _ _ (call (Value.ref 127) _) _ _ _); refine wpAny_call ?_; k_dflt (refine' ask_values_spec ⟨?w9hB, ?w9hF, ?w9hX, ?w9hT, ?w9hf, ?w9hk⟩ ?w9hN ?w9hd ?w9hu ?w9hW ?w9hI ?w9hir ?w9hO ?w9hol ?w9hp ?w9hpl ?w9hrl ?w9hK ?w9hks ?w9hkl ?w9d1 ?w9d2 ?w9d3 ?w9d4 ?w9d5 ?w9d6 ?w9r1 ?w9r2 ?w9r3 (fun ds_w outs_w row_w ins_w h_w tk_w l_w vs_w nl_w es_w n_w ivs_w ni_w ovs_w no_w e_w hW_w hI_w hO_w hol_w hds_w F_w N_w l1_w l2_w l3_w l4_w l5 => ?_) (fun outs_w row_w h_w tk_w e_w t_w es_w n_w ivs_w ni_w ovs_w no_w g2_w ee_w hW_w hI_w hO_w hol_w hrl_w FG2_w U2_w R2_w => ?_); (case w9hF => k_asm); (case w9hB => k_asm); (case w9hX => k_asm); (case w9hT => k_asm); (case w9hf => first | exact rfl | assumption); (case w9hk => first | exact rfl | assumption); (case w9hN => k_asm); (case w9hd => k_room); (case w9hu => (dsimp only [Around.deeper, Around.in1, Around.mark]; omega)); (case w9hW => assumption); (case w9hI => assumption); (case w9hir => assumption); (case w9hO => assumption); (case w9hol => omega); (case w9hp => assumption); (case w9hpl => assumption); (case w9hrl => assumption); (case w9hK => k_mem); (case w9hks => assumption); (case w9hkl => assumption); (case w9d1 => assumption); (case w9d2 => assumption); (case w9d3 => assumption); (case w9d4 => assumption); (case w9d5 => assumption); (case w9d6 => assumption); (case w9r1 => assumption); (case w9r2 => assumption); (case w9r3 => assumption); (try dsimp only); (try k_sweep)))
  k_with "subscriptTail Name Slice ref ref" => (k_here; (with_reducible show wpAny _ _ (subscriptTail _ (PySem.Expr.Slice _ _ none _) (Value.ref _) (Value.ref _)) _ _ _); k_dflt (refine' kms_slice_lit ?w9F ?w9N ?w9l ?w9p ?w9q ?w9e ?_ ?w9s ?w9t ?w9z; (case w9F => k_asm); (case w9N => k_asm); (case w9l => kmk_list); (case w9p => kmk_part); (case w9q => kmk_part); (case w9e => first | exact pick_all _ | exact pick_first _ | exact pick_rest _ | exact pick_init _); (case w9s => with_unfolding_all rfl); (case w9t => kmk_pure); (case w9z => rw [List.size_toArray, sizeLine_eq]; omega)); intro D_w h_w F_w N_w l1_w; (try k_lt l1_w); (try k_sweep))
  k_with "call ref" => (k_here; (with_reducible show wpAny _ _ (call (Value.ref 194) _) _ _ _); refine wpAny_call ?_; k_dflt (refine' state_spec ⟨?w9hB, ?w9hF, ?w9hX, ?w9hT, ?w9hf, ?w9hk⟩ ?w9hN ?w9hd ?w9hW ?w9hI ?w9hO ?w9hol ?w9hil ?_; (case w9hF => k_asm); (case w9hB => k_asm); (case w9hX => k_asm); (case w9hT => k_asm); (case w9hf => first | exact rfl | assumption); (case w9hk => first | exact rfl | assumption); (case w9hN => k_asm); (case w9hd => k_room); (case w9hW => assumption); (case w9hI => assumption); (case w9hO => assumption); (case w9hol => omega); (case w9hil => omega); k_whole); intro D_w D1_w D2_w t_w h_w tk_w q1_w q2_w q3_w F_w N_w; (try simp only [AllLt] at q3_w); (try k_sweep))
  k_with "call ref" => (k_here; (with_reducible show wpAny _ _ (call (Value.ref 152) _ _) _ _ _); k_dflt (refine' world_spec ⟨?w9hB, ?w9hF, ?w9hX, ?w9hT, ?w9hf, ?w9hk⟩ ?w9hN ?w9hd ?_; (case w9hF => k_asm); (case w9hB => k_asm); (case w9hX => k_asm); (case w9hT => k_asm); (case w9hf => first | exact rfl | assumption); (case w9hk => first | exact rfl | assumption); (case w9hN => k_asm); (case w9hd => k_room); k_whole); intro dx_w x_w io_w oo_w es_w n_w tk_w h_w hW_w q1_w q2_w q3_w q4_w F_w N_w; (try k_sweep); (obtain ⟨⟨tr_w, hr_w⟩, hi_w, ho_w, hlen_w⟩ := (id hW_w)))
  trivial
theorem off_Fr0 : True := by
  w_top off
  trivial
section
variable {w : World} {hd : Option Value} {dp un : Nat} {gd : Option (List Code)} {env : Env} {outer : List Env} {A₀ : Around} {base h₀ : Heap} {L : Addr} {m : Str → Option Value}
    {p : Program} {loose : List Str} {mean : ExcName → Option Value} {mg mb : Str → Option Value} {s : Shared} {R : Result → Shared → Prop}
    {rest : List (Addr × Obj)}
/-- a for over range(b): between the turns names and ledger may change -/
theorem for_rng {prog : Program} {w : World} {A : Around} {E : Value → Shared → Prop} {s : Shared} {env : Env} {target : PySem.Expr} {body : List Stmt} {Q : Flow → Shared → Prop} {r n L : Nat} {b : Int} {t u v : Tok}
    (J : Nat → (Str → Option Value) → List (Addr × Obj) → Prop) {g : Heap} {M : Str → Option Value} {news : List (Addr × Obj)} (hh : A.handled = none) (F : Fr g L s.heap M) (N : News g L s.heap news)
    (hr : IsRange s.heap r 0 b 1 t u v) (hsm : Builtin.Range.small 0 b 1 = true) (hn : Builtin.Range.rangeSize 0 b 1 = ((n : Nat) : Int)) (hE : PassesOwn (model prog w) A env E)
    (h0 : J 0 M news)
    (turn : ∀ (it : Nat) o k M news h tk tv, J k M news → k < n → Fr g L h M → News g L h ((it, o) :: news) → (∀ p ∈ news, p.1 ≠ it) → wpAny (model prog w) A (assign target env (.int (k : Int) tv)) (fun _ s₂ => wpAny (model prog w) A (execs body env)
      (ForEnd (fun s₃ => ∃ h' tk', s₃ = { s with heap := h', toks := tk' } ∧ ∃ M' news', J (k + 1) M' news' ∧ Fr g L h' M' ∧ News g L h' ((it, o) :: news') ∧ (∀ p ∈ news', p.1 ≠ it)) Q) E s₂) E { s with heap := h, toks := tk })
    (fin : ∀ M news h tk, J n M news → Fr g L h M → News g L h news → Q .next { s with heap := h, toks := tk })
    (ht : ∀ it v, letOwnedTupleGo target it v = pure () := by intro _ _; rfl) :
    wpAny (model prog w) A (pyIter (.ref r)) (fun it s₂ => codeAny (model prog w) A (.forLoop target it body [] env) (fun r s' => match r with | .ok f => Q f s' | .error e => cameBackBy (model prog w) A env E e s') s₂) E s := by
  refine wpAny_pyIter_range hr hsm ?_
  refine codeAny_forLoop (fun n' s₁ => ∃ k o h tk M news, n' = n - k ∧ k ≤ n ∧ s₁ = { s with heap := h, toks := tk } ∧ J k M news ∧ Fr g L h M ∧ News g L h ((s.heap.objs.size, o) :: news) ∧ (∀ p ∈ news, p.1 ≠ s.heap.objs.size) ∧ IsRangeIter h s.heap.objs.size (k : Int) ((n : Int) - (k : Int)) 1) ?_ n
    ⟨0, _, _, s.toks, M, news, by omega, by omega, rfl, h0, F.push _, News.push F N _ rfl, N.apart, by rw [hn]; exact (News.push F N _ rfl).get (.head _)⟩ (ht _)
  rintro n' _ ⟨k, o, h, tk, M1, news1, hn', hk, rfl, hJ, F1, N1, ap, hit⟩
  by_cases c : k < n
  · refine wpAny_pyNext_range_item hit (by omega) fun h' hit' hs => ?_
    have ho' : h'.get? s.heap.objs.size = some _ := hit'
    refine wpAny_mono (turn _ _ k M1 news1 h' (tk + 1) tk hJ c (F1.update N1 (.head _) hs) (N1.setHead ap hs ho') ap) (fun _ s₂ h₂ => wpAny_mono h₂ (fun f s₃ h₃ => ?_) hE) hE
    have go : (∃ h'' tk'', s₃ = { s with heap := h'', toks := tk'' } ∧ ∃ M' news', J (k + 1) M' news' ∧ Fr g L h'' M' ∧ News g L h'' ((s.heap.objs.size, ({ cls := .type "range_iterator", dict := none, data := .fields #[rawInt ((k : Int) + 1), rawInt ((n : Int) - (k : Int) - 1), rawInt 1], slots := #[] } : Obj)) :: news') ∧ (∀ p ∈ news', p.1 ≠ s.heap.objs.size)) →
        ∃ n'', n'' < n' ∧ ∃ k o h tk M news, n'' = n - k ∧ k ≤ n ∧ s₃ = { s with heap := h, toks := tk } ∧ J k M news ∧ Fr g L h M ∧ News g L h ((s.heap.objs.size, o) :: news) ∧ (∀ p ∈ news, p.1 ≠ s.heap.objs.size) ∧ IsRangeIter h s.heap.objs.size (k : Int) ((n : Int) - (k : Int)) 1 := by
      rintro ⟨h4, tk4, e, M', news', hJ', F', N', ap'⟩
      refine ⟨n - (k + 1), by omega, k + 1, _, h4, tk4, M', news', rfl, by omega, e, hJ', F', N', ap', ?_⟩
      have e1 : (((k + 1 : Nat) : Int)) = (k : Int) + 1 := by omega
      have e2 : (n : Int) - ((k : Int) + 1) = (n : Int) - (k : Int) - 1 := by omega
      rw [e1, e2]
      exact N'.get (.head _)
    cases f with
    | next => obtain ⟨n'', a, b⟩ := go h₃; exact ⟨n'', a, b⟩
    | cont => obtain ⟨n'', a, b⟩ := go h₃; exact ⟨n'', a, b⟩
    | brk => exact h₃
    | ret v => exact h₃
  · have e : k = n := by omega
    subst e
    refine wpAny_pyNext_range_end hh hit (by omega) fun h' he => ?_
    have hL : s.heap.objs.size ≠ L := N1.ne (.head _)
    have hnn : ∀ b x, g.get? b = some x → b ≠ s.heap.objs.size := fun b x e q => by rw [q, N1.fresh (.head _)] at e; cases e
    exact wpAny_execs_nil (fin M1 news1 h' tk hJ ⟨F1.ns.extBut he hL.symm, fun b x e => he b x (hnn b x e) (F1.keep b x e), F1.above⟩ fun p hp => ⟨he _ _ (ap p hp) (N1 p (.tail _ hp)).1, (N1 p (.tail _ hp)).2⟩)
/-- the same, the goal's continuation behind variables -/
theorem for_rngA {prog : Program} {w : World} {A : Around} {E : Value → Shared → Prop} {s : Shared} {env : Env} {target : PySem.Expr} {body : List Stmt} {Q : Flow → Shared → Prop} {r n L : Nat} {b : Int} {t u v : Tok}
    (J : Nat → (Str → Option Value) → List (Addr × Obj) → Prop) {g : Heap} {M : Str → Option Value} {news : List (Addr × Obj)} (hh : A.handled = none) (F : Fr g L s.heap M) (N : News g L s.heap news)
    (hr : IsRange s.heap r 0 b 1 t u v) (hsm : Builtin.Range.small 0 b 1 = true) (hn : Builtin.Range.rangeSize 0 b 1 = ((n : Nat) : Int)) (hE : PassesOwn (model prog w) A env E)
    (h0 : J 0 M news)
    (turn : ∀ (it : Nat) o k M news h tk tv (Again : Shared → Prop) (Q' : Flow → Shared → Prop) (E' : Value → Shared → Prop) (s₀ : Shared), PassesOwn (model prog w) A env E' → (∀ h' tk' M' news', J (k + 1) M' news' → Fr g L h' M' → News g L h' ((it, o) :: news') → (∀ p ∈ news', p.1 ≠ it) → Again { s₀ with heap := h', toks := tk' }) → J k M news → k < n → Fr g L h M → News g L h ((it, o) :: news) → (∀ p ∈ news, p.1 ≠ it) → wpAny (model prog w) A (assign target env (.int (k : Int) tv)) (fun _ s₂ => wpAny (model prog w) A (execs body env)
      (ForEnd Again Q') E' s₂) E' { s₀ with heap := h, toks := tk })
    (fin : ∀ M news h tk, J n M news → Fr g L h M → News g L h news → Q .next { s with heap := h, toks := tk })
    (ht : ∀ it v, letOwnedTupleGo target it v = pure () := by intro _ _; rfl) :
    wpAny (model prog w) A (pyIter (.ref r)) (fun it s₂ => codeAny (model prog w) A (.forLoop target it body [] env) (fun r s' => match r with | .ok f => Q f s' | .error e => cameBackBy (model prog w) A env E e s') s₂) E s :=
  for_rng J hh F N hr hsm hn hE h0 (fun it o k M news h tk tv hJ hk FM NM ap => turn it o k M news h tk tv _ Q E s hE (fun h' tk' M' news' a b c d => ⟨h', tk', rfl, M', news', a, b, c, d⟩) hJ hk FM NM ap) fin ht
theorem allObj_mono : ∀ {ws : List (Addr × String)} {k k' : List (Addr × Obj) → Prop}, (∀ its, k its → k' its) → AllObj ws k → AllObj ws k'
  | [], _, _, hk, h => hk _ h
  | _ :: _, _, _, hk, h => fun o ho => allObj_mono (fun its => hk _) (h o ho)
/-- items_loop, the goal's continuation behind variables -/
theorem items_loopA {prog : Program} {w : World} {A : Around} {E : Value → Shared → Prop} {h₀ : Heap} {env : Env} {target : PySem.Expr} {body : List Stmt} {Q : Flow → Shared → Prop} {s : Shared} {ws : List (Addr × String)} {keep : List (Addr × Obj)}
    (Inv : List Itm → (Str → Option Value) → List (Addr × Obj) → Prop)
    (turn : ∀ a r m news v h tk (s₀ : Shared), Inv (a :: r) m news → a.Is v h → Fr h₀ env.locals h m → AllObj ws (fun its => News h₀ env.locals h (its ++ news) → ∀ (P : Flow → Shared → Prop) (E' : Value → Shared → Prop),
      (∀ h' tk' m' n', Fr h₀ env.locals h' m' → News h₀ env.locals h' (its ++ n') → (∀ p ∈ n', ∀ q ∈ its, p.1 ≠ q.1) → SubL keep n' → Inv r m' n' → P .next { s₀ with heap := h', toks := tk' }) →
      wpAny (model prog w) A (assign target env v) (fun _ s₂ => wpAny (model prog w) A (execs body env) P E' s₂) E' { s₀ with heap := h, toks := tk }))
    (last : ∀ m news h tk, Inv [] m news → Fr h₀ env.locals h m → News h₀ env.locals h news → Q .next { s with heap := h, toks := tk }) :
    ∀ items m news, Inv items m news → ItemsRest prog w A E h₀ env target body Q s ws keep items m news :=
  items_loop Inv (fun a r m news v h tk hI hv F => allObj_mono (fun its k N => k N _ E fun h' tk' m' n' a b c d e => ⟨h', tk', m', n', rfl, a, b, c, d, e⟩) (turn a r m news v h tk s hI hv F)) last
end
theorem off_Lw0 : True := by
  w_top off
  trivial
section
variable {w : World} {hd : Option Value} {dp un : Nat} {gd : Option (List Code)} {env : Env} {outer : List Env} {A₀ : Around} {base h₀ : Heap} {L : Addr} {m : Str → Option Value}
    {p : Program} {loose : List Str} {mean : ExcName → Option Value} {mg mb : Str → Option Value} {s : Shared} {R : Result → Shared → Prop}
    {rest : List (Addr × Obj)}
theorem texts_at {vs : List Value} {xs : List Str} (h : DatAll [] vs (xs.map Dat.str)) : ∀ {i : Nat} {y : Str}, xs[i]? = some y → ∃ t, vs[i]? = some (.str y t) := by
  induction xs generalizing vs with
  | nil => intro i y e; simp at e
  | cons x xs ih =>
    rw [List.map_cons] at h
    cases h with
    | cons h1 h2 =>
      cases h1
      intro i y e
      cases i with
      | zero => simp at e; subst e; exact ⟨_, rfl⟩
      | succ i => exact ih h2 (by simpa using e)
theorem found_one {l : List (Addr × Obj)} {v : Value} {f : List Dat × Nat} (h : DatIn l v (.tuple [.list f.1, .int f.2])) : ∃ (a c la nl : Nat) (ti : Tok) (vs : List Value), v = .ref a ∧
    (a, ({ cls := .type "tuple", data := .seq #[.ref la, .int f.2 ti] c } : Obj)) ∈ l ∧ (la, listOf vs.toArray nl) ∈ l ∧ DatAll l vs f.1 := by
  cases h with
  | tuple ht hd =>
    cases hd with
    | cons h3 hd =>
      cases hd with
      | cons h4 hd =>
        cases hd
        cases h3 with
        | list hl ha =>
          cases h4
          exact ⟨_, _, _, _, _, _, rfl, ht, hl, ha⟩
theorem texts_cut {vs : List Value} {xs : List Str} (h : DatAll [] vs (xs.map Dat.str)) : DatAll [] (vs.take 1) ((xs.take 1).map Dat.str) ∧ DatAll [] (vs.drop 1) ((xs.drop 1).map Dat.str) := by
  cases xs with
  | nil => cases h; exact ⟨.nil, .nil⟩
  | cons x xs =>
    rw [List.map_cons] at h
    cases h with
    | cons h1 h2 => exact ⟨.one h1, h2⟩
theorem flat_single : ∀ (rows : List Str), (rows.map fun r => [r]).flatten = rows
  | [] => rfl
  | r :: rows => by rw [List.map_cons, List.flatten_cons, flat_single rows]; rfl
theorem texts_get {vs : List Value} {xs : List Str} (h : DatAll [] vs (xs.map Dat.str)) : ∀ {i : Nat} {v : Value}, vs[i]? = some v → ∃ y t, v = .str y t ∧ xs[i]? = some y := by
  induction xs generalizing vs with
  | nil => cases h; intro i v e; simp at e
  | cons x xs ih =>
    rw [List.map_cons] at h
    cases h with
    | cons h1 h2 =>
      cases h1
      intro i v e
      cases i with
      | zero => simp at e; subst e; exact ⟨_, _, rfl, rfl⟩
      | succ i => exact ih h2 (by simpa using e)
theorem nm_all {g h : Heap} {L : Addr} {r : List (Addr × Obj)} (_N : News g L h r) : ∃ r', r' = r := ⟨_, rfl⟩
theorem OrdsIn.ok {l : List (Addr × Obj)} {vs : List Value} {os : List Ord} (h : OrdsIn l vs os) : ∀ o ∈ os, OrdOk o := by
  induction h with
  | nil => exact fun _ h => nomatch h
  | cons _ _ h3 _ _ ih =>
    intro o ho
    rcases List.mem_cons.mp ho with rfl | ho
    · exact fun y e => (h3 y e).2
    · exact ih o ho
theorem law_turn {g h : Heap} {L : Addr} {a b c d e f u v x y pw ps pit : Addr × Obj} {mm tl CL : List (Addr × Obj)} (N : News g L h (a :: b :: c :: d :: e :: f :: u :: v :: x :: y :: pw :: ps :: pit :: (mm ++ (tl ++ CL)))) :
    News g L h (pit :: pw :: ps :: ((a :: b :: c :: d :: e :: f :: u :: v :: x :: y :: (mm ++ tl)) ++ CL)) := N.perm (by
  intro p hp
  simp only [List.mem_cons, List.cons_append, List.append_assoc] at hp ⊢
  rcases hp with hp | hp | hp | hp | hp | hp | hp | hp | hp | hp | hp | hp | hp | hp <;> simp [hp])
theorem nm_tls3 {g h : Heap} {L : Addr} {a b c : Addr × Obj} {r CL : List (Addr × Obj)} (_N : News g L h (a :: b :: c :: (r ++ CL))) : ∃ r', r' = r := ⟨_, rfl⟩
theorem LotsIn.mono {l l' : List (Addr × Obj)} {vs : List Value} {os : List (List Str)} (h : LotsIn l vs os) (sub : ∀ p ∈ l, p ∈ l') : LotsIn l' vs os := by
  induction h with
  | nil => exact .nil
  | cons h1 h2 _ ih => exact .cons (sub _ h1) h2 ih
theorem LotsIn.append {l : List (Addr × Obj)} {vs vs' : List Value} {os os' : List (List Str)} (h : LotsIn l vs os) (h' : LotsIn l vs' os') : LotsIn l (vs ++ vs') (os ++ os') := by
  induction h with
  | nil => exact h'
  | cons h1 h2 _ ih => exact .cons h1 h2 ih
theorem LotsIn.last {l : List (Addr × Obj)} {vs : List Value} {os : List (List Str)} (h : LotsIn l vs os) (hn : os ≠ []) : ∃ (vs' : List Value) (la n : Nat) (tvs : List Value) (os' : List (List Str)) (lot : List Str),
    vs = vs' ++ [.ref la] ∧ os = os' ++ [lot] ∧ LotsIn l vs' os' ∧ (la, listOf tvs.toArray n) ∈ l ∧ DatAll [] tvs (lot.map Dat.str) := by
  induction h with
  | nil => exact absurd rfl hn
  | cons h1 h2 h3 ih =>
    rename_i vs0 lot0 lots0
    cases lots0 with
    | nil => cases h3; exact ⟨[], _, _, _, [], _, rfl, rfl, .nil, h1, h2⟩
    | cons a b =>
      obtain ⟨vs', la, n, tvs, os', lot, e1, e2, e3, e4, e5⟩ := ih (by simp)
      exact ⟨_ :: vs', la, n, tvs, _ :: os', lot, by rw [e1]; rfl, by rw [e2]; rfl, .cons h1 h2 e3, e4, e5⟩
theorem int_three' {r : Int} (h0 : 0 ≤ r) (h1 : r < 3) : r = 0 ∨ r = 1 ∨ r = 2 := by
  obtain ⟨n, rfl⟩ := Int.eq_ofNat_of_zero_le h0
  exact (by decide : ∀ n : Nat, n < 3 → ((n : Int) = 0 ∨ (n : Int) = 1 ∨ (n : Int) = 2)) n (Int.ofNat_lt.mp h1)
/-- the state of the law, while it builds its rows -/
structure LawSt (W S Oa : Nat) (ws ovs : List Value) (bg : Str) (tb : Tok) (more CL : List (Addr × Obj)) (k : Nat) (M : Str → Option Value) (news : List (Addr × Obj))
    (i : Int) (tkj : Tok) (Ro Lo nR nL : Nat) (rvs lvs : List Value) (rows : List Str) (lots : List (List Str)) (tl : List (Addr × Obj)) : Prop where
  m1 : M (Str.ofString "orders") = some (.ref Oa)
  m2 : M (Str.ofString "begin") = some (.str bg tb)
  m3 : M (Str.ofString "rows") = some (.ref Ro)
  m4 : M (Str.ofString "lots") = some (.ref Lo)
  nw : news = (W, listOf #[.ref S, .int i tkj] 0) :: (S, listOf ws.toArray 0) :: (tl ++ CL)
  oa : (Oa, LCg.lst ovs) ∈ tl
  mo : ∀ p ∈ more, p ∈ tl
  ro : (Ro, listOf rvs.toArray nR) ∈ tl
  rd : DatAll [] rvs (rows.map Dat.str)
  lo : (Lo, listOf lvs.toArray nL) ∈ tl
  ld : LotsIn tl lvs lots
  fl : lots.flatten = rows
  ne : lots ≠ []
  rk : rows.length = k
  lk : lots.length ≤ 1 + 2 * k
  rx : ∀ r ∈ rows, r.length ≤ 100 ∧ PyData.strOk r = true
  i0 : 0 ≤ i
  i1 : i ≤ 20 + 5 * (k : Int)
  ap : ∀ q ∈ tl, q.1 ≠ W ∧ q.1 ≠ S
theorem int_seven {r : Int} (h0 : 0 ≤ r) (h1 : r < 7) : r = 0 ∨ r = 1 ∨ r = 2 ∨ r = 3 ∨ r = 4 ∨ r = 5 ∨ r = 6 := by
  obtain ⟨n, rfl⟩ := Int.eq_ofNat_of_zero_le h0
  exact (by decide : ∀ n : Nat, n < 7 → ((n : Int) = 0 ∨ (n : Int) = 1 ∨ (n : Int) = 2 ∨ (n : Int) = 3 ∨ (n : Int) = 4 ∨ (n : Int) = 5 ∨ (n : Int) = 6)) n (Int.ofNat_lt.mp h1)
theorem nm_law {g h : Heap} {L T Lo L0 Ro : Nat} {o1 o2 o3 o4 : Obj} {r : List (Addr × Obj)} (_N : News g L h ((T, o1) :: (Lo, o2) :: (L0, o3) :: (Ro, o4) :: r)) : ∃ (T' Lo' L0' Ro' : Nat), T' = T ∧ Lo' = Lo ∧ L0' = L0 ∧ Ro' = Ro := ⟨_, _, _, _, rfl, rfl, rfl, rfl⟩
theorem law_front {g h : Heap} {L : Addr} {a b x y z u v w : Addr × Obj} {r CL : List (Addr × Obj)} (N : News g L h (x :: y :: z :: u :: a :: b :: v :: w :: (r ++ CL))) : News g L h (a :: b :: ((x :: y :: z :: u :: v :: w :: r) ++ CL)) := N.perm (by
  intro p hp; simp only [List.mem_cons, List.cons_append] at hp ⊢; rcases hp with hp | hp | hp | hp | hp | hp | hp | hp | hp <;> simp [hp])
theorem nm_tls {g h : Heap} {L : Addr} {a b : Addr × Obj} {r CL : List (Addr × Obj)} (_N : News g L h (a :: b :: (r ++ CL))) : ∃ r', r' = r := ⟨_, rfl⟩
theorem begin_pick {g h : Heap} {L P0 n0 : Nat} {t1 t2 : Tok} {rr : List (Addr × Obj)} (_N : News g L h ((P0, listOf #[.str (Str.ofString "") t1, .str (Str.ofString "ahead ") t2] n0) :: rr)) {r : Int} (h0 : 0 ≤ r) (h1 : r < 2) :
    ∃ bg tb, [Value.str (Str.ofString "") t1, .str (Str.ofString "ahead ") t2][r.toNat]? = some (.str bg tb) ∧ bg.length ≤ 100 ∧ PyData.strOk bg = true := by
  rcases int_two h0 h1 with rfl | rfl
  · exact ⟨_, _, rfl, by decide +kernel, by decide +kernel⟩
  · exact ⟨_, _, rfl, by decide +kernel, by decide +kernel⟩
theorem wd_A_31 : True := by
  k_with "subscriptTail List Call" => (k_here; (with_reducible show wpAny _ _ (subscriptTail _ _ (Value.ref _) (Value.int _ _)) _ _ _); refine stop_any ?_)
  k_with "subscriptTail List" => (k_here; (with_reducible show wpAny _ _ (subscriptTail _ _ (Value.ref _) (Value.int _ _)) _ _ _); refine stop_any ?_)
  trivial
theorem nm_cell {g h : Heap} {L c : Nat} {o : Obj} {a b : Addr × Obj} (_N : News g L h (a :: b :: (c, o) :: [])) : ∃ CL, CL = [(c, o)] ∧ (c, o) ∈ CL := ⟨_, rfl, .head _⟩
theorem news_front2 {g h : Heap} {L : Addr} {a b x y : Addr × Obj} {r : List (Addr × Obj)} (N : News g L h (x :: y :: a :: b :: r)) : News g L h (a :: b :: x :: y :: r) := N.perm (by
  intro p hp; simp only [List.mem_cons] at hp ⊢; rcases hp with hp | hp | hp | hp | hp <;> simp [hp])
theorem int_four {r : Int} (h0 : 0 ≤ r) (h1 : r < 4) : r = 0 ∨ r = 1 ∨ r = 2 ∨ r = 3 := by
  obtain ⟨n, rfl⟩ := Int.eq_ofNat_of_zero_le h0
  exact (by decide : ∀ n : Nat, n < 4 → ((n : Int) = 0 ∨ (n : Int) = 1 ∨ (n : Int) = 2 ∨ (n : Int) = 3)) n (Int.ofNat_lt.mp h1)
theorem nm_ws {g h : Heap} {L W S c n : Nat} {i : Int} {tk : Tok} {vs : List Value} {r : List (Addr × Obj)} (_N : News g L h ((W, listOf #[.ref S, .int i tk] n) :: (S, listOf vs.toArray c) :: r)) : ∃ (W' S' : Nat) (vs' : List Value), W' = W ∧ S' = S ∧ vs' = vs := ⟨_, _, _, rfl, rfl, rfl⟩
theorem OrdsIn.mono {l l' : List (Addr × Obj)} {vs : List Value} {os : List Ord} (h : OrdsIn l vs os) (sub : ∀ p ∈ l, p ∈ l') : OrdsIn l' vs os := by
  induction h with
  | nil => exact .nil
  | cons h1 h2 h3 h4 _ ih => exact .cons (sub _ h1) h2 h3 (h4.mono sub) ih
theorem OrdsIn.snoc {l : List (Addr × Obj)} {vs : List Value} {os : List Ord} {Od c : Nat} {kv pv : Value} {o : Ord} (h : OrdsIn l vs os) (h1 : (Od, ({ cls := .type "tuple", data := .seq #[kv, pv, .bool o.b] c } : Obj)) ∈ l) (h2 : OptV o.po pv)
    (h3 : ∀ y, o.po = some y → y.length ≤ 100 ∧ PyData.strOk y = true) (h4 : KindsIn l kv o.ks) : OrdsIn l (vs ++ [.ref Od]) (os ++ [o]) := by
  induction h with
  | nil => exact .cons h1 h2 h3 h4 .nil
  | cons a b c d _ ih => exact .cons a b c d ih
theorem wd_A_32 : True := by
  k_with "eval ListComp" => (k_here; refine stop_any ?_)
  k_with "binaryOp Add ref ref" => (k_here; (with_reducible show wpAny _ _ (binaryOp _ (Value.ref _) (Value.ref _)) _ _ _); refine stop_any ?_)
  k_with "subscriptTail Name UnaryOp ref int" => (k_here; (with_reducible show wpAny _ _ (subscriptTail _ _ (Value.ref _) (Value.int _ _)) _ _ _); refine stop_any ?_)
  k_with "eval Name" => (k_here; k_dflt (refine' nameX_L (hk := ?w9a) (hx := ?w9b) ?w9F ?w9hv ?_; (case w9a => rfl); (case w9b => rfl); (case w9F => k_asm); (case w9hv => (repeat refine Eq.trans (if_neg (by decide)) ?_); first | assumption | exact if_pos rfl); k_whole))
  k_with "subscriptTail Name BinOp ref int" => (k_here; (with_reducible show wpAny _ _ (subscriptTail _ _ (Value.ref _) (Value.int _ _)) _ _ _); refine stop_any ?_)
  k_with "subscriptTail Name Constant ref int" => (k_here; (with_reducible show wpAny _ _ (subscriptTail _ _ (Value.ref _) (Value.int _ _)) _ _ _); refine stop_any ?_)
  k_with "compareOp NotEq ref ref" => (k_here; (with_reducible show wpAny _ _ (compareOp CmpOp.NotEq (Value.ref _) (Value.ref _)) _ _ _); refine stop_any ?_)
  k_with "callWith ref" => (k_here; (with_reducible show wpAny _ _ (callWith _ (Value.ref 152) _ _ _) _ _ _); refine stop_any ?_)
  k_with "call builtin:len" => (k_here; (with_reducible show wpAny _ _ (call (Value.builtin "len") [Value.ref _]) _ _ _); k_dflt (refine' len_led ?w9N ?w9m ?w9z ?_; (case w9N => k_asm); (case w9m => k_mem); (case w9z => with_reducible assumption); k_whole))
  k_with "execs cons" => contradiction
  k_with "exec Assign cons ListComp" => (k_here; refine stop_any ?_)
  k_with "CompSrc" => (k_here; refine stop_any ?_)
  k_with "call ref" => (k_here; (with_reducible show wpAny _ _ (call (Value.ref 163) _) _ _ _); refine stop_any ?_)
  k_with "call ref" => (k_here; (with_reducible show wpAny _ _ (call (Value.ref 170) _) _ _ _); refine stop_any ?_)
  k_with "call ref" => (k_here; (with_reducible show wpAny _ _ (call (Value.ref 175) _) _ _ _); refine stop_any ?_)
  k_with "call ref" => (k_here; (with_reducible show wpAny _ _ (call (Value.ref 201) _) _ _ _); refine stop_any ?_)
  k_with "call ref" => (k_here; (with_reducible show wpAny _ _ (call (Value.ref 206) _) _ _ _); refine stop_any ?_)
  k_with "call ref" => (k_here; (with_reducible show wpAny _ _ (call (Value.ref 187) _) _ _ _); refine stop_any ?_)
  k_with "eval Name" => (k_here; k_dflt (first
      | (refine' nameX_C (hk := ?w9a) (hx := ?w9b) ?w9N ?w9hc ?w9hm ?w9hd ?_; (case w9a => rfl); (case w9b => rfl); (case w9N => k_asm); (case w9hc => rfl); (case w9hm => k_mem); (case w9hd => assumption); k_whole)
      | (refine' lcf_cell (hk := ?w9a) (hx := ?w9b) ?w9N ?w9hc ?w9hm ?w9hd ?_; (case w9a => rfl); (case w9b => rfl); (case w9N => k_asm); (case w9hc => rfl); (case w9hm => k_mem); (case w9hd => assumption); k_whole)))
  trivial
theorem law_holds : PySem.Challenge.rw_sm0001_01.Holds := Mine.hd ⟨hd_left, (by
  k_go0
  all_goals try k_fold
  rename Obj.data _ = Data.cell (bindC _ _ _ _) => d1
  k_steps
  rename Fr _ _ _ _ => F0
  obtain ⟨M0, F0⟩ : ∃ M0, Fr _ _ _ M0 := ⟨_, F0⟩
  unfold Stop
  k_dflt (refine LCg.Assign_ListComp_U (F₀ := by k_asm) (by rfl) (by with_unfolding_all rfl) (by with_unfolding_all rfl) (by decide) (by rfl) (by decide) (by rfl) (by rfl) (by rfl) ?_)
  k_steps
  rename News _ _ _ _ => NX
  rename Fr _ _ _ _ => FX
  rename (¬ ((63 : Int) < _)) => h63
  rename List.length (List.take 48 _) = _ => h48
  rename IntsAre _ (List.take 48 _) => hI
  obtain ⟨W, S, ws, e1, e2, e3⟩ := nm_ws NX
  subst e1 e2 e3
  obtain ⟨lS, lC⟩ := (by assumption : S < W ∧ _ < W)
  have lC2 := (by assumption : _ < S)
  unfold Stop
  refine wpAny_call ?_
  k_dflt (refine' given_spec (i := 0) ⟨?hB, FX, ?hX, ?hT, ?hf, ?hk⟩ NX ?hd hI ?hns ?h0 ?h1 ?hm ?hm2 ?hWS ?hW ?zz)
  case hB => k_asm
  case hX => k_asm
  case hT => k_asm
  case hf => exact rfl
  case hk => exact rfl
  case hd => k_room
  case hns => omega
  case h0 => omega
  case h1 => omega
  case hm => decide
  case hm2 => decide
  case hWS => exact Nat.ne_of_gt lS
  case hW => exact fun q hq => by rw [List.mem_singleton.mp hq]; exact Nat.ne_of_lt lC
  intro r tr tk2 tk3 h2 r0 r1 F2 N2
  clear NX FX
  obtain ⟨n0, hn1, hn2, hn3, hn4⟩ : ∃ n0 : Nat, Builtin.Range.small 0 (1 + r) 1 = true ∧ Builtin.Range.rangeSize 0 (1 + r) 1 = ((n0 : Nat) : Int) ∧ 1 ≤ n0 ∧ n0 ≤ 4 := by
    rcases int_four r0 r1 with rfl | rfl | rfl | rfl
    · exact ⟨1, by decide, by decide, by decide, by decide⟩
    · exact ⟨2, by decide, by decide, by decide, by decide⟩
    · exact ⟨3, by decide, by decide, by decide, by decide⟩
    · exact ⟨4, by decide, by decide, by decide, by decide⟩
  dsimp only
  k_steps
  rename News _ _ _ _ => NX
  rename Fr _ _ _ _ => FX
  rename IsRange _ _ _ _ _ _ _ _ => RX
  obtain ⟨CL, eCL, hC0⟩ := nm_cell NX
  rw [← eCL] at NX
  have hCL : ∀ q ∈ CL, q.1 < S ∧ q.1 < W := by
    intro q hq
    rw [eCL] at hq
    rw [List.mem_singleton.mp hq]
    exact ⟨lC2, lC⟩
  unfold Stop
  refine LCg.CompSrc.range (by rfl) FX NX RX hn1 hn2 (by rw [sizeLine_eq]; omega) (fun g0 => comp_turns n0 (fun k ys news => ∃ (i : Int) (tkj : Tok) (more : List (Addr × Obj)) (os : List Ord), news = (W, listOf #[.ref S, .int i tkj] 0) :: (S, listOf ws.toArray 0) :: (more ++ CL) ∧ OrdsIn more ys os ∧ os.length = k ∧ 0 ≤ i ∧ i ≤ 1 + 3 * (k : Int) ∧ (∀ q ∈ more, W < q.1 ∧ S < q.1)) ?turn ?fin n0 0 [] _ (Nat.zero_add _) ?h0)
  case h0 => exact ⟨_, _, [], [], rfl, .nil, rfl, by omega, by omega, (fun _ hp => absurd hp List.not_mem_nil)⟩
  case turn =>
    clear NX FX RX
    rintro k ys nw hk ⟨i, tkj, more, os, hnw, hO, hol, hi0, hi1, hmw⟩ v I oI C oC D m₂ h tk9 E' ⟨tv, rfl⟩ hC hm9 F9 N9 off ne
    rw [hnw] at N9 off
    have hcm := List.mem_append_right more hC0
    k_steps
    rename News _ _ _ _ => NX
    rename Fr _ _ _ _ => FX
    have NY := news_front3 NX
    unfold Stop
    refine wpAny_call ?_
    k_dflt (refine' order_spec (i := i) ⟨?hB, FX, ?hX, ?hT, ?hf, ?hk⟩ NY ?hd hI ?hns ?h0 ?h1 ?hWS ?hW ?zz2)
    case hB => k_asm
    case hX => k_asm
    case hT => k_asm
    case hf => exact rfl
    case hk => exact rfl
    case hd => k_room
    case hns => omega
    case h0 => omega
    case h1 => omega
    case hWS => exact Nat.ne_of_gt lS
    case hW =>
      intro q hq
      simp only [List.mem_cons, List.mem_append] at hq
      rcases hq with rfl | rfl | rfl | hq | hq
      · exact off.1.1.symm
      · exact off.1.2.1.symm
      · exact off.1.2.2.symm
      · exact Nat.ne_of_gt (hmw q hq).1
      · exact Nat.ne_of_lt (hCL q hq).2
    intro O cc kv pv od more' tk4 h5 tk5 hOm hOk hop hopl hmm F5 N5
    dsimp only
    k_unfold
    (try dsimp only)
    refine LCg.CompEnd.intro F5 N5 ((W, listOf #[.ref S, .int (i + 1 + 1 + 1) tk4] 0) :: (S, listOf ws.toArray 0) :: ((more' ++ more) ++ CL)) ?_ ⟨off.1, off.2.1, LCg.Off3.of fun q hq => ?_⟩ trivial ⟨i + 1 + 1 + 1, tk4, more' ++ more, os ++ [od], rfl, (hO.mono fun q hq => List.mem_append_right _ hq).snoc (List.mem_append_left _ hOm) hop hopl (hOk.mono fun q hq => List.mem_append_left _ hq), by rw [List.length_append, hol]; rfl, by omega, by omega, ?_⟩
    · intro q hq
      simp only [List.mem_cons, List.mem_append] at hq ⊢
      rcases hq with hq | hq | hq | hq | hq | (hq | hq) | hq <;> simp [hq]
    · rcases List.mem_append.mp hq with hq | hq
      · rcases List.mem_append.mp hq with hq | hq
        · have z := (hmm q hq).2.2
          exact ⟨Nat.ne_of_gt (z (I, oI) (by simp)), Nat.ne_of_gt (z (C, oC) (by simp)), Nat.ne_of_gt (z (D, LCg.lst ys) (by simp))⟩
        · exact LCg.Off3.mem off.2.2 q (List.mem_append_left _ hq)
      · exact LCg.Off3.mem off.2.2 q (List.mem_append_right _ hq)
    · intro q hq
      rcases List.mem_append.mp hq with hq | hq
      · exact ⟨(hmm q hq).1, (hmm q hq).2.1⟩
      · exact hmw q hq
  case fin =>
    clear NX FX RX
    rintro ovs nw ⟨i, tkj, more, os, hnw, hO, hol, hi0, hi1, hmw⟩
    rw [hnw]
    unfold LCg.FinA
    intro Oa h7 tk7 F7 N7 o7
    dsimp only
    k_steps
    rename News _ _ _ _ => NX
    rename Fr _ _ _ _ => FX
    obtain ⟨P0, e0⟩ := nm_first NX
    subst e0
    obtain ⟨lOP, lWP, lSP, lmP⟩ := (by assumption : Oa < P0 ∧ W < P0 ∧ S < P0 ∧ AllLt P0 (more ++ CL))
    have NY := news_front2 NX
    unfold Stop
    refine wpAny_call ?_
    k_dflt (refine' given_spec (i := i) ⟨?hB, FX, ?hX, ?hT, ?hf, ?hk⟩ NY ?hd hI ?hns ?h0 ?h1 ?hm ?hm2 ?hWS ?hW ?zz3)
    case hB => k_asm
    case hX => k_asm
    case hT => k_asm
    case hf => exact rfl
    case hk => exact rfl
    case hd => k_room
    case hns => omega
    case h0 => omega
    case h1 => omega
    case hm => decide
    case hm2 => decide
    case hWS => exact Nat.ne_of_gt lS
    case hW =>
      intro q hq
      simp only [List.mem_cons, List.mem_append] at hq
      rcases hq with rfl | rfl | hq | hq
      · exact Nat.ne_of_gt lWP
      · exact o7.1.symm
      · exact Nat.ne_of_gt (hmw q hq).1
      · exact Nat.ne_of_lt (hCL q hq).2
    intro r8 tr8 tk8 tk9 h8 r80 r81 F8 N8
    obtain ⟨bg, tb, hbp, hbl, hbk⟩ := begin_pick NX r80 r81
    clear NX NY FX
    dsimp only
    k_steps
    rename News _ _ _ _ => NX
    unfold Stop
    refine item_at (NX.isList (by k_mem)) r80 (by omega) hbp ?_
    k_steps
    rename News _ _ _ _ => NX
    obtain ⟨T0, Lo, L0, Ro, e1, e2, e3, e4⟩ := nm_law NX
    subst e1 e2 e3 e4
    obtain ⟨wR, sR, -⟩ := (by assumption : W < Ro ∧ S < Ro ∧ _)
    obtain ⟨-, wL0, sL0, -⟩ := (by assumption : Ro < L0 ∧ W < L0 ∧ S < L0 ∧ _)
    obtain ⟨-, -, wLo, sLo, -⟩ := (by assumption : L0 < Lo ∧ Ro < Lo ∧ W < Lo ∧ S < Lo ∧ _)
    obtain ⟨-, -, -, wT0, sT0, -⟩ := (by assumption : Lo < T0 ∧ L0 < T0 ∧ Ro < T0 ∧ W < T0 ∧ S < T0 ∧ _)
    replace NX := law_front NX
    obtain ⟨tl0, etl0⟩ := nm_tls NX
    have hap : ∀ q ∈ tl0, q.1 ≠ W ∧ q.1 ≠ S := by
      intro q hq
      rw [etl0] at hq
      simp only [List.mem_cons] at hq
      rcases hq with rfl | rfl | rfl | rfl | rfl | rfl | hq
      · exact ⟨Nat.ne_of_gt wT0, Nat.ne_of_gt sT0⟩
      · exact ⟨Nat.ne_of_gt wLo, Nat.ne_of_gt sLo⟩
      · exact ⟨Nat.ne_of_gt wL0, Nat.ne_of_gt sL0⟩
      · exact ⟨Nat.ne_of_gt wR, Nat.ne_of_gt sR⟩
      · exact ⟨Nat.ne_of_gt lWP, Nat.ne_of_gt lSP⟩
      · exact ⟨o7.1.symm, o7.2.1.symm⟩
      · exact ⟨Nat.ne_of_gt (hmw q hq).1, Nat.ne_of_gt (hmw q hq).2⟩
    have hoa : (Oa, LCg.lst ovs) ∈ tl0 := by rw [etl0]; k_mem
    have hro : (Ro, listOf ([] : List Value).toArray 0) ∈ tl0 := by rw [etl0]; k_mem
    have hlo : (Lo, listOf [Value.ref L0].toArray 0) ∈ tl0 := by rw [etl0]; k_mem
    have hl0 : (L0, listOf ([] : List Value).toArray 0) ∈ tl0 := by rw [etl0]; k_mem
    have hmo : ∀ p ∈ more, p ∈ tl0 := fun p hp => by rw [etl0]; exact .tail _ (.tail _ (.tail _ (.tail _ (.tail _ (.tail _ hp)))))
    rw [← etl0] at NX
    have hcm := List.mem_append_right tl0 hC0
    unfold Stop
    refine wpAny_For ?_
    k_steps
    rename Fr _ _ _ _ => FX
    unfold Stop
    refine wpAny_call ?_
    k_dflt (refine' given_spec (i := i + 1) ⟨?hB, FX, ?hX, ?hT, ?hf, ?hk⟩ NX ?hd hI ?hns ?h0 ?h1 ?hm ?hm2 ?hWS ?hW ?zz4)
    case hB => k_asm
    case hX => k_asm
    case hT => k_asm
    case hf => exact rfl
    case hk => exact rfl
    case hd => k_room
    case hns => omega
    case h0 => omega
    case h1 => omega
    case hm => decide
    case hm2 => decide
    case hWS => exact Nat.ne_of_gt lS
    case hW =>
      intro q hq
      rcases List.mem_append.mp hq with hq | hq
      · exact (hap q hq).1
      · exact Nat.ne_of_lt (hCL q hq).2
    intro rt trt tkt tku ht rt0 rt1 Ft Nt
    clear NX FX
    obtain ⟨n1, hm1, hm2, hm3⟩ : ∃ n1 : Nat, Builtin.Range.small 0 rt 1 = true ∧ Builtin.Range.rangeSize 0 rt 1 = ((n1 : Nat) : Int) ∧ n1 ≤ 6 := by
      rcases int_seven rt0 rt1 with rfl | rfl | rfl | rfl | rfl | rfl | rfl
      · exact ⟨0, by decide, by decide, by decide⟩
      · exact ⟨1, by decide, by decide, by decide⟩
      · exact ⟨2, by decide, by decide, by decide⟩
      · exact ⟨3, by decide, by decide, by decide⟩
      · exact ⟨4, by decide, by decide, by decide⟩
      · exact ⟨5, by decide, by decide, by decide⟩
      · exact ⟨6, by decide, by decide, by decide⟩
    dsimp only
    k_steps
    rename News _ _ _ _ => NX
    rename Fr _ _ _ _ => FX
    rename IsRange _ _ _ _ _ _ _ _ => RX
    refine for_rngA (fun k M news => ∃ i tkj Ro Lo nR nL rvs lvs rows lots tl, LawSt W S Oa ws ovs bg tb more CL k M news i tkj Ro Lo nR nL rvs lvs rows lots tl) (by rfl) FX NX RX hm1 hm2 ?hE ?h0 ?turn ?fin
    case hE => first | passes_own | with_unfolding_all passes_own
    case h0 =>
      refine ⟨i + 1 + 1, tkt, Ro, Lo, 0, 0, [], [.ref L0], [], [[]], tl0, ⟨?_, ?_, ?_, ?_, rfl, hoa, hmo, hro, .nil, hlo, .cons (tvs := []) hl0 .nil .nil, rfl, by decide, rfl, by decide, (fun _ hp => absurd hp List.not_mem_nil), by omega, by omega, hap⟩⟩
      · exact Eq.trans (if_neg (by decide)) (Eq.trans (if_neg (by decide)) (Eq.trans (if_neg (by decide)) (if_pos rfl)))
      · exact if_pos rfl
      · exact Eq.trans (if_neg (by decide)) (if_pos rfl)
      · exact Eq.trans (if_neg (by decide)) (Eq.trans (if_neg (by decide)) (if_pos rfl))
    case turn =>
      clear NX FX RX hro hlo hl0 hap hoa hmo hcm etl0
      rintro it o k M news h tk tv Again QZ EZ sZ hEZ hAg ⟨i, tkj, Ro, Lo, nR, nL, rvs, lvs, rows, lots, tl, hSt⟩ hk FM NM ap
      obtain ⟨m1, m2, m3, m4, hnw, hoa, hmo, hro, hrd, hlo, hld, hfl, hne, hrk, hlk, hrx, hi0, hi1, hap⟩ := hSt
      rw [hnw] at NM ap
      have hcm := List.mem_append_right tl hC0
      have hro2 := List.mem_append_left CL hro
      have hlo2 := List.mem_append_left CL hlo
      k_steps
      rename News _ _ _ _ => NX
      rename Fr _ _ _ _ => FX
      have hWit : W ≠ it := ap _ (.head _)
      have hSit : S ≠ it := ap _ (.tail _ (.head _))
      have NY := news_front1 NX
      unfold Stop
      refine wpAny_call ?_
      k_dflt (refine' row_spec (i := i) ⟨?hB, FX, ?hX, ?hT, ?hf, ?hk⟩ NY ?hd hI ?hns ?h0 ?h1 ?hWS ?hW ?zz5)
      case hB => k_asm
      case hX => k_asm
      case hT => k_asm
      case hf => exact rfl
      case hk => exact rfl
      case hd => k_room
      case hns => omega
      case h0 => omega
      case h1 => omega
      case hWS => exact Nat.ne_of_gt lS
      case hW =>
        intro q hq
        rcases List.mem_cons.mp hq with rfl | hq
        · exact hWit.symm
        · rcases List.mem_append.mp hq with hq | hq
          · exact (hap q hq).1
          · exact Nat.ne_of_lt (hCL q hq).2
      intro x tx j tkw hw tkw2 more9 hxl hxk hj0 hj1 Fw Nw
      clear NX NY FX
      dsimp only
      k_steps
      unfold Stop
      k_dflt (refine LCg.ListComp_U (F₀ := by k_asm) (by with_unfolding_all rfl) (by decide) (by rfl) (by decide) (by rfl) ?_)
      k_steps
      rename News _ _ _ _ => NX
      rename Fr _ _ _ _ => FX
      unfold Stop
      refine wpAny_call ?_
      k_dflt (refine' given_spec (i := j) ⟨?hB, FX, ?hX, ?hT, ?hf, ?hk⟩ NX ?hd hI ?hns ?h0 ?h1 ?hm ?hm2 ?hWS ?hW ?zz6)
      case hB => k_asm
      case hX => k_asm
      case hT => k_asm
      case hf => exact rfl
      case hk => exact rfl
      case hd => k_room
      case hns => omega
      case h0 => omega
      case h1 => omega
      case hm => decide
      case hm2 => decide
      case hWS => exact Nat.ne_of_gt lS
      case hW =>
        intro q hq
        rcases List.mem_cons.mp hq with rfl | hq
        · exact hWit.symm
        · rcases List.mem_append.mp hq with hq | hq
          · exact (hap q hq).1
          · exact Nat.ne_of_lt (hCL q hq).2
      intro rg trg tkg tkg2 hg2 rg0 rg1 Fg Ng
      clear NX FX
      obtain ⟨n2, hg1, hg3, hg4⟩ : ∃ n2 : Nat, Builtin.Range.small 0 rg 1 = true ∧ Builtin.Range.rangeSize 0 rg 1 = ((n2 : Nat) : Int) ∧ n2 ≤ 2 := by
        rcases int_three' rg0 rg1 with rfl | rfl | rfl
        · exact ⟨0, by decide, by decide, by decide⟩
        · exact ⟨1, by decide, by decide, by decide⟩
        · exact ⟨2, by decide, by decide, by decide⟩
      dsimp only
      k_steps
      rename News _ _ _ _ => NX
      rename Fr _ _ _ _ => FX
      rename IsRange _ _ _ _ _ _ _ _ => RX
      unfold Stop
      refine LCg.CompSrc.range (by rfl) FX NX RX hg1 hg3 (by rw [sizeLine_eq]; omega) (fun g0 => comp_turns n2 (fun k ys news => ∃ mm, news = (W, listOf #[.ref S, .int (j + 1) tkg] 0) :: (S, listOf ws.toArray 0) :: (it, o) :: (mm ++ (tl ++ CL)) ∧ LotsIn mm ys (List.replicate k []) ∧ ∀ q ∈ mm, q.1 ≠ W ∧ q.1 ≠ S ∧ q.1 ≠ it) ?turng ?fing n2 0 [] _ (Nat.zero_add _) ?h0g)
      case h0g => exact ⟨[], rfl, .nil, (fun _ hp => absurd hp List.not_mem_nil)⟩
      case turng =>
        clear NX FX RX
        rintro kk ys nw hkk ⟨mm, hnwg, hLm, hmmq⟩ v I oI C oC D m₂ h tk9 E' ⟨tvg, rfl⟩ hC hm9 F9 N9 off ne
        rw [hnwg] at N9 off
        k_steps
        rename News _ _ _ _ => NX
        rename Fr _ _ _ _ => FX
        obtain ⟨A1, e1⟩ := nm_first NX
        subst e1
        obtain ⟨z1, z2, z3, z4, z5, z6, z7⟩ := (by assumption : I < A1 ∧ C < A1 ∧ D < A1 ∧ W < A1 ∧ S < A1 ∧ it < A1 ∧ AllLt A1 (mm ++ (tl ++ CL)))
        refine LCg.CompEnd.intro FX NX ((W, listOf #[.ref S, .int (j + 1) tkg] 0) :: (S, listOf ws.toArray 0) :: (it, o) :: (((A1, listOf ([] : List Value).toArray 0) :: mm) ++ (tl ++ CL))) ?_ ⟨off.1, off.2.1, off.2.2.1, ⟨Nat.ne_of_gt z1, Nat.ne_of_gt z2, Nat.ne_of_gt z3⟩, off.2.2.2⟩ trivial ⟨(A1, listOf ([] : List Value).toArray 0) :: mm, rfl, ?_, ?_⟩
        · intro q hq
          simp only [List.mem_cons, List.mem_append] at hq ⊢
          rcases hq with hq | hq | hq | hq | hq | hq | (hq | hq) | hq <;> simp [hq]
        · rw [List.replicate_succ']
          exact (hLm.mono fun q hq => .tail _ hq).append (.cons (tvs := []) (.head _) .nil .nil)
        · intro q hq
          rcases List.mem_cons.mp hq with rfl | hq
          · exact ⟨Nat.ne_of_gt z4, Nat.ne_of_gt z5, Nat.ne_of_gt z6⟩
          · exact hmmq q hq
      case fing =>
        clear NX FX RX
        rintro gvs nw ⟨mm, hnwg, hLm, hmmq⟩
        rw [hnwg]
        unfold LCg.FinE
        intro Gg hgg tkgg F9 N9 o9
        dsimp only
        k_steps
        have hgl := hLm.length
        rw [List.length_replicate] at hgl
        have hll := hld.length
        have hrl := hrd.length
        rw [List.length_map] at hrl
        have hro3 := List.mem_append_right mm hro2
        have hlo3 := List.mem_append_right mm hlo2
        have hcm3 := List.mem_append_right mm hcm
        have hall : LotsIn (mm ++ tl) (lvs ++ gvs) (lots ++ List.replicate n2 []) := (hld.mono fun q hq => List.mem_append_right _ hq).append (hLm.mono fun q hq => List.mem_append_left _ hq)
        obtain ⟨vs9, la, nla, tvs, os9, lot, el1, el2, hl9, hla9, hld9⟩ := hall.last (by simp [hne])
        have hla3 : (la, listOf tvs.toArray nla) ∈ mm ++ (tl ++ CL) := by
          rw [← List.append_assoc]; exact List.mem_append_left _ hla9
        have hfl9 : os9.flatten ++ lot = rows := by
          have z := congrArg List.flatten el2
          rw [List.flatten_append, List.flatten_append, hfl, List.flatten_singleton] at z
          rw [← z]
          have : (List.replicate n2 ([] : List Str)).flatten = [] := by
            induction n2 with
            | zero => rfl
            | succ n ih => simp
          rw [this, List.append_nil]
        have hlotl : lot.length ≤ k := by
          have z := congrArg List.length hfl9
          rw [List.length_append] at z
          omega
        have htvl := hld9.length
        rw [List.length_map] at htvl
        have hos9 : os9.length + 1 = lots.length + n2 := by
          have z := congrArg List.length el2
          rw [List.length_append, List.length_append, List.length_replicate, List.length_singleton] at z
          omega
        have hvs9 := hl9.length
        unfold Stop
        refine add_led (vs := lvs) (n := nL) (ws := gvs) (n' := gvs.length) F9 N9 (by k_mem) (.head _) (by omega) fun B1 hB1 FB NB lB => ?_
        rw [el1] at NB
        have hlen1 : (vs9 ++ [Value.ref la]).length ≤ 100 := by rw [List.length_append, List.length_singleton]; omega
        k_steps
        rename News _ _ _ _ => NX
        rename Fr _ _ _ _ => FX
        obtain ⟨R1, e1⟩ := nm_first NX
        subst e1
        have lR1 := (by assumption : B1 < R1 ∧ _)
        unfold Stop
        refine add_led (vs := rvs) (n := nR) (ws := [Value.str x tx]) (n' := 0) FX NX (by k_mem) (.head _) (by rw [List.length_singleton]; omega) fun R2 hR2 FR NR lR => ?_
        k_steps
        rename News _ _ _ _ => NX
        rename Fr _ _ _ _ => FX
        obtain ⟨X1, e1⟩ := nm_first NX
        subst e1
        have lX1 := (by assumption : R2 < X1 ∧ _)
        rw [List.dropLast_concat] at NX
        unfold Stop
        refine kim_back (lo := listOf (vs9 ++ [Value.ref la]).toArray 0) (l := vs9 ++ [Value.ref la]) NX (by k_mem) rfl rfl (by decide) (by rw [List.length_append, List.length_singleton]; omega) (by decide) (x := Value.ref la) ?hxl ?_
        case hxl =>
          have e : ((-1 : Int) + ((vs9 ++ [Value.ref la]).length : Int)).toNat = vs9.length := by rw [List.length_append, List.length_singleton]; omega
          exact (congrArg (fun n => (vs9 ++ [Value.ref la])[n]?) e).trans (by simp)
        k_steps
        rename News _ _ _ _ => NX
        rename Fr _ _ _ _ => FX
        obtain ⟨Y1, e1⟩ := nm_first NX
        subst e1
        have lY1 := (by assumption : X1 < Y1 ∧ _)
        unfold Stop
        refine add_led (vs := tvs) (n := nla) (ws := [Value.str x tx]) (n' := 0) FX NX (by k_mem) (.head _) (by rw [List.length_singleton]; omega) fun Y2 hY2 FY NY lY => ?_
        k_steps
        rename News _ _ _ _ => NX
        rename Fr _ _ _ _ => FX
        obtain ⟨Z1, e1⟩ := nm_first NX
        subst e1
        have lZ1 := (by assumption : Y2 < Z1 ∧ _)
        unfold Stop
        refine add_led (vs := vs9) (n := 0) (ws := [Value.ref Y2]) (n' := 0) FX NX (by k_mem) (.head _) (by rw [List.length_singleton]; omega) fun Lo2 hLo2 FL NL lL => ?_
        k_steps
        rename News _ _ _ _ => NX
        rename Fr _ _ _ _ => FX
        obtain ⟨T1, e1⟩ := nm_first NX
        subst e1
        obtain ⟨-, -, -, -, -, -, -, -, -, wT, sT, iT, -⟩ := (by assumption : Lo2 < T1 ∧ _)
        obtain ⟨-, -, -, -, -, -, -, wZ, sZ, iZ, -⟩ := lZ1
        obtain ⟨-, -, -, -, -, wY, sY, iY, -⟩ := lY1
        obtain ⟨-, -, -, -, wX, sX, iX, -⟩ := lX1
        obtain ⟨-, -, wR1, sR1, iR1, -⟩ := lR1
        have NY2 := law_turn NX
        obtain ⟨tl2, etl2⟩ := nm_tls3 NY2
        have hap2 : ∀ q ∈ tl2, q.1 ≠ W ∧ q.1 ≠ S ∧ q.1 ≠ it := by
          intro q hq
          rw [etl2] at hq
          simp only [List.mem_cons] at hq
          rcases hq with rfl | rfl | rfl | rfl | rfl | rfl | rfl | rfl | rfl | rfl | hq
          · exact ⟨Nat.ne_of_gt wT, Nat.ne_of_gt sT, Nat.ne_of_gt iT⟩
          · exact ⟨Nat.ne_of_gt (lL (W, _) (by k_mem)), Nat.ne_of_gt (lL (S, _) (by k_mem)), Nat.ne_of_gt (lL (it, _) (by k_mem))⟩
          · exact ⟨Nat.ne_of_gt wZ, Nat.ne_of_gt sZ, Nat.ne_of_gt iZ⟩
          · exact ⟨Nat.ne_of_gt (lY (W, _) (by k_mem)), Nat.ne_of_gt (lY (S, _) (by k_mem)), Nat.ne_of_gt (lY (it, _) (by k_mem))⟩
          · exact ⟨Nat.ne_of_gt wY, Nat.ne_of_gt sY, Nat.ne_of_gt iY⟩
          · exact ⟨Nat.ne_of_gt wX, Nat.ne_of_gt sX, Nat.ne_of_gt iX⟩
          · exact ⟨Nat.ne_of_gt (lR (W, _) (by k_mem)), Nat.ne_of_gt (lR (S, _) (by k_mem)), Nat.ne_of_gt (lR (it, _) (by k_mem))⟩
          · exact ⟨Nat.ne_of_gt wR1, Nat.ne_of_gt sR1, Nat.ne_of_gt iR1⟩
          · exact ⟨Nat.ne_of_gt (lB (W, _) (by k_mem)), Nat.ne_of_gt (lB (S, _) (by k_mem)), Nat.ne_of_gt (lB (it, _) (by k_mem))⟩
          · exact ⟨o9.1.symm, o9.2.1.symm, o9.2.2.1.symm⟩
          · rcases List.mem_append.mp hq with hq | hq
            · exact hmmq q hq
            · exact ⟨(hap q hq).1, (hap q hq).2, ap q (.tail _ (.tail _ (List.mem_append_left _ hq)))⟩
        have hin2 : ∀ q ∈ mm ++ tl, q ∈ tl2 := fun q hq => by rw [etl2]; exact .tail _ (.tail _ (.tail _ (.tail _ (.tail _ (.tail _ (.tail _ (.tail _ (.tail _ (.tail _ hq)))))))))
        have hLo2 : (Lo2, listOf (vs9 ++ [Value.ref Y2]).toArray 0) ∈ tl2 := by rw [etl2]; k_mem
        have hR2m : (R2, listOf (rvs ++ [Value.str x tx]).toArray 0) ∈ tl2 := by rw [etl2]; k_mem
        have hY2m : (Y2, listOf (tvs ++ [Value.str x tx]).toArray 0) ∈ tl2 := by rw [etl2]; k_mem
        rw [← etl2] at NY2
        unfold ForEnd Stop
        refine hAg _ _ _ ((W, listOf #[.ref S, .int (j + 1) tkg] 0) :: (S, listOf ws.toArray 0) :: (tl2 ++ CL)) ⟨j + 1, tkg, R2, Lo2, 0, 0, rvs ++ [Value.str x tx], vs9 ++ [Value.ref Y2], rows ++ [x], os9 ++ [lot ++ [x]], tl2,
          ⟨?_, ?_, if_pos rfl, Eq.trans (if_neg (by decide)) (if_pos rfl), rfl, hin2 _ (List.mem_append_right _ hoa), fun p hp => hin2 _ (List.mem_append_right _ (hmo p hp)), hR2m, ?_, hLo2, ?_, ?_, by simp, ?_, ?_, ?_, by omega, by omega, fun q hq => ⟨(hap2 q hq).1, (hap2 q hq).2.1⟩⟩⟩ FX NY2 ?_
        · (repeat refine Eq.trans (if_neg (by decide)) ?_); exact m1
        · (repeat refine Eq.trans (if_neg (by decide)) ?_); exact m2
        · rw [List.map_append]; exact hrd.append (.one (.str _ _))
        · exact (hl9.mono hin2).append (.cons hY2m (by rw [List.map_append]; exact hld9.append (.one (.str _ _))) .nil)
        · rw [List.flatten_append, List.flatten_singleton, ← List.append_assoc, hfl9]
        · rw [List.length_append, hrk, List.length_singleton]
        · rw [List.length_append, List.length_singleton]; omega
        · intro y hy
          rcases List.mem_append.mp hy with hy | hy
          · exact hrx y hy
          · rw [List.mem_singleton.mp hy]; exact ⟨hxl, hxk⟩
        · intro q hq
          rcases List.mem_cons.mp hq with rfl | hq
          · exact hWit
          · rcases List.mem_cons.mp hq with rfl | hq
            · exact hSit
            · rcases List.mem_append.mp hq with hq | hq
              · exact (hap2 q hq).2.2
              · exact ap q (.tail _ (.tail _ (List.mem_append_right _ hq)))
    case fin =>
      clear NX FX RX hro hlo hl0 hap hoa hmo hcm etl0
      rintro M news h tk ⟨i, tkj, Ro, Lo, nR, nL, rvs, lvs, rows, lots, tl, hSt⟩ FM NM
      obtain ⟨m1, m2, m3, m4, hnw, hoa, hmo, hro, hrd, hlo, hld, hfl, hne, hrk, hlk, hrx, hi0, hi1, hap⟩ := hSt
      have hst : ∀ q ∈ tl, q ∈ news := fun q hq => by rw [hnw]; exact .tail _ (.tail _ (List.mem_append_left _ hq))
      replace hoa := hst _ hoa
      replace hro := hst _ hro
      replace hlo := hst _ hlo
      replace hld := hld.mono hst
      have hO2 := hO.mono fun q hq => hst _ (hmo q hq)
      clear hnw hst hap hi0 hi1 hmo
      have hgok : ∀ (lots' : List (List Str)) (ins : List Str), ins ++ lots'.flatten = rows → OkG (gone os lots' 0 [] [] bg ins) ∧ (gone os lots' 0 [] [] bg ins).1.length ≤ 0 + os.length := fun lots' ins e =>
        gone_ok os lots' 0 [] [] bg ins hO.ok (fun _ hp => absurd hp List.not_mem_nil) (fun _ hp => absurd hp List.not_mem_nil) hbk (fun x hx => (hrx x (by rw [← e]; exact List.mem_append_left _ hx)).2) (fun x hx => (hrx x (by rw [← e]; exact List.mem_append_right _ hx)).2)
      have hgsame : ∀ (lots' : List (List Str)) (ins : List Str), ins ++ lots'.flatten = rows → (gone os [] 0 [] [] bg rows).2 = (gone os lots' 0 [] [] bg ins).2 ∧ (gone os [] 0 [] [] bg rows).1.map (·.1) = (gone os lots' 0 [] [] bg ins).1.map (·.1) := fun lots' ins e => by
        have z := gone_same os lots' 0 0 [] [] [] bg ins rfl
        rw [e] at z
        exact ⟨z.2.symm, z.1.symm⟩
      dsimp only
      k_steps
      rename News _ _ _ _ => NX
      rename Fr _ _ _ _ => FX
      obtain ⟨E1, e1⟩ := nm_first NX
      subst e1
      unfold Stop
      refine wpAny_call ?_
      k_dflt (refine' gone_spec (os := os) (bg := bg) (lots := []) (first := rows) ⟨?hB, FX, ?hX, ?hT, ?hf, ?hk⟩ ?XB ?TB NX ?hd ?hu (.tail _ hoa) (hO2.mono fun _ h => .tail _ h) (.tail _ hro) hrd (.head _) (lvs := []) .nil ?htx ?hsz ?hszo ?hszl hbl hbk ?zz7)
      case hB => k_asm
      case hX => k_asm
      case hT => k_asm
      case hf => exact rfl
      case hk => exact rfl
      case XB => k_asm
      case TB => k_asm
      case hd => k_room
      case hu => decide
      case htx => simpa using hrx
      case hsz => rw [List.flatten_nil, List.append_nil]; omega
      case hszo => omega
      case hszl => decide
      intro v1 h1 tk1 tl1 hd1 F1 N1 ap1
      clear NX FX ap1
      obtain ⟨T1, Fa1, S1, c1, fv1, nf1, e1, G1⟩ := goneD_open (hd1.mono fun q hq => List.mem_append_left ((E1, listOf ([] : List Value).toArray 0) :: news) hq)
      subst e1
      have hs1 : ∀ q ∈ news, q ∈ tl1 ++ (E1, listOf ([] : List Value).toArray 0) :: news := fun q hq => List.mem_append_right _ (.tail _ hq)
      obtain ⟨R1, eR1⟩ := nm_all N1
      rw [← eR1] at N1 G1 hs1
      dsimp only
      k_steps
      rename Fr _ _ _ _ => F0
      unfold Stop
      k_dflt (refine LCg.ListComp_U (F₀ := by k_asm) (by with_unfolding_all rfl) (by decide) (by rfl) (by decide) (by rfl) ?_)
      k_steps
      rename News _ _ _ _ => NX
      rename Fr _ _ _ _ => FX
      obtain ⟨E2, e1⟩ := nm_first NX
      subst e1
      have hs2 : ∀ q ∈ R1, q ∈ (E2, listOf ([] : List Value).toArray 0) :: R1 := fun q hq => .tail _ hq
      have hE2 : (E2, listOf ([] : List Value).toArray 0) ∈ (E2, listOf ([] : List Value).toArray 0) :: R1 := .head _
      obtain ⟨B2, eB2⟩ := nm_all NX
      rw [← eB2] at NX hs2 hE2
      unfold Stop
      refine LCg.CompSrc.ledger (by rfl) FX NX (its := rvs.toArray) (k := nR) (hs2 _ (hs1 _ hro)) (by rw [sizeLine_eq, List.size_toArray]; have z := hrd.length; rw [List.length_map] at z; omega) (fun g0 => comp_turns rvs.toArray.size (fun k ys news => ∃ mm, news = mm ++ B2 ∧ LotsIn mm ys ((rows.take k).map fun r => [r])) ?turnb ?finb _ 0 [] _ (Nat.zero_add _) ?h0b)
      case h0b => exact ⟨[], rfl, by rw [List.take_zero]; exact .nil⟩
      case turnb =>
        clear NX FX
        rintro kk ys nw hkk ⟨mm, hnwg, hLm⟩ v I oI C oC D m₂ h tk9 E' hv hC hm9 F9 N9 off ne
        rw [hnwg] at N9 off
        obtain ⟨y, ty, rfl, hy⟩ := texts_get hrd (i := kk) (v := v) (by simpa using hv)
        k_steps
        rename News _ _ _ _ => NX
        rename Fr _ _ _ _ => FX
        obtain ⟨A1, e1⟩ := nm_first NX
        subst e1
        obtain ⟨z1, z2, z3, -⟩ := (by assumption : I < A1 ∧ C < A1 ∧ D < A1 ∧ _)
        refine LCg.CompEnd.intro FX NX (((A1, listOf [Value.str y ty].toArray 0) :: mm) ++ B2) ?_ ⟨⟨Nat.ne_of_gt z1, Nat.ne_of_gt z2, Nat.ne_of_gt z3⟩, off⟩ (.inr ⟨_, List.mem_append_right _ (hs2 _ (hs1 _ hro)), rfl, _, rfl⟩) ⟨(A1, listOf [Value.str y ty].toArray 0) :: mm, rfl, ?_⟩
        · intro q hq
          simp only [List.mem_cons, List.mem_append] at hq ⊢
          rcases hq with hq | hq | hq | (hq | hq) | hq <;> simp [hq]
        · rw [List.take_add_one, hy]
          simp only [Option.toList_some, List.map_append, List.map_cons, List.map_nil]
          exact (hLm.mono fun q hq => .tail _ hq).append (.cons (tvs := [.str y ty]) (.head _) (.one (.str _ _)) .nil)
      case finb =>
      clear NX FX
      rintro gvb nw ⟨mmb, hnwg, hLmb⟩
      rw [hnwg]
      have eb : rows.take rvs.toArray.size = rows := List.take_of_length_le (by have z := hrd.length; rw [List.length_map] at z; rw [List.size_toArray, z]; exact Nat.le_refl _)
      rw [eb] at hLmb
      unfold LCg.FinE
      intro Db hb tkb Fb Nb ob
      dsimp only
      obtain ⟨B3, eB3⟩ := nm_all Nb
      have hDb : (Db, LCg.lst gvb) ∈ (Db, LCg.lst gvb) :: (mmb ++ B2) := .head _
      have hs3 : ∀ q ∈ B2, q ∈ (Db, LCg.lst gvb) :: (mmb ++ B2) := fun q hq => .tail _ (List.mem_append_right _ hq)
      have hLb := hLmb.mono (l' := (Db, LCg.lst gvb) :: (mmb ++ B2)) fun q hq => .tail _ (List.mem_append_left _ hq)
      rw [← eB3] at Nb hDb hs3 hLb
      have hi3 : ∀ q ∈ news, q ∈ B3 := fun q hq => hs3 _ (hs2 _ (hs1 _ hq))
      k_steps
      rename News _ _ _ _ => NX
      rename Fr _ _ _ _ => FX
      unfold Stop
      refine wpAny_call ?_
      k_dflt (refine' gone_spec (os := os) (bg := bg) (lots := rows.map fun r => [r]) (first := []) ⟨?hB, FX, ?hX, ?hT, ?hf, ?hk⟩ ?XB ?TB NX ?hd ?hu (hi3 _ hoa) (hO2.mono hi3) (hs3 _ hE2) (fvs := []) .nil (nL := gvb.length) hDb hLb ?htx ?hsz ?hszo ?hszl hbl hbk ?zz8)
      case hB => k_asm
      case hX => k_asm
      case hT => k_asm
      case hf => exact rfl
      case hk => exact rfl
      case XB => k_asm
      case TB => k_asm
      case hd => k_room
      case hu => decide
      case htx => rw [List.nil_append, flat_single]; exact hrx
      case hsz => rw [List.nil_append, flat_single]; omega
      case hszo => omega
      case hszl => rw [List.length_map]; omega
      intro v2 h2 tk2 tl2 hd2 F2 N2 ap2
      clear NX FX ap2
      obtain ⟨T2, Fa2, S2, c2, fv2, nf2, e1, G2⟩ := goneD_open (hd2.mono fun q hq => List.mem_append_left B3 hq)
      subst e1
      have hp2 : ∀ q ∈ B3, q ∈ tl2 ++ B3 := fun q hq => List.mem_append_right _ hq
      obtain ⟨R2, eR2⟩ := nm_all N2
      rw [← eR2] at N2 G2 hp2
      have hok := hgok [] rows (by rw [List.flatten_nil, List.append_nil])
      have hr1 : ∀ q ∈ R1, q ∈ R2 := fun q hq => hp2 _ (hs3 _ (hs2 _ hq))
      dsimp only
      k_steps
      rename News _ _ _ _ => NX
      rename Fr _ _ _ _ => FX
      unfold Stop
      refine wpAny_call ?_
      k_dflt (refine' alike_spec (rest := R2) ⟨?hB, FX, ?hX, ?hT, ?hf, ?hk⟩ NX ?hd ?hu (G1.mono hr1) G2 (hgsame (rows.map fun r => [r]) [] (by rw [List.nil_append, flat_single])).1 (hgsame (rows.map fun r => [r]) [] (by rw [List.nil_append, flat_single])).2 (okD_state hok.1.o hok.1.w hok.1.i) hok.1.a (Nat.le_trans hok.2 (by omega)) ?zz9)
      case hB => k_asm
      case hX => k_asm
      case hT => k_asm
      case hf => exact rfl
      case hk => exact rfl
      case hd => k_room
      case hu => decide
      intro h5 tk5 F5 N5
      dsimp only
      k_steps
      rename News _ _ _ _ => NX
      rename Fr _ _ _ _ => FX
      obtain ⟨E3, e1⟩ := nm_first NX
      subst e1
      have hi4 : ∀ q ∈ news, q ∈ (E3, listOf ([] : List Value).toArray 0) :: R2 := fun q hq => .tail _ (hp2 _ (hi3 q hq))
      unfold Stop
      refine wpAny_call ?_
      k_dflt (refine' gone_spec (os := os) (bg := bg) (lots := lots) (first := []) ⟨?hB, FX, ?hX, ?hT, ?hf, ?hk⟩ ?XB ?TB NX ?hd ?hu (hi4 _ hoa) (hO2.mono hi4) (.head _) (fvs := []) .nil (hi4 _ hlo) (hld.mono hi4) ?htx ?hsz ?hszo ?hszl hbl hbk ?zzA)
      case hB => k_asm
      case hX => k_asm
      case hT => k_asm
      case hf => exact rfl
      case hk => exact rfl
      case XB => k_asm
      case TB => k_asm
      case hd => k_room
      case hu => decide
      case htx => rw [List.nil_append, hfl]; exact hrx
      case hsz => rw [List.nil_append, hfl]; omega
      case hszo => omega
      case hszl => omega
      intro v3 h3 tk3 tl3 hd3 F3 N3 ap3
      clear NX FX ap3
      obtain ⟨T3, Fa3, S3, c3, fv3, nf3, e1, G3⟩ := goneD_open (hd3.mono fun q hq => List.mem_append_left ((E3, listOf ([] : List Value).toArray 0) :: R2) hq)
      subst e1
      have hp3 : ∀ q ∈ ((E3, listOf ([] : List Value).toArray 0) :: R2), q ∈ tl3 ++ ((E3, listOf ([] : List Value).toArray 0) :: R2) := fun q hq => List.mem_append_right _ hq
      obtain ⟨R3, eR3⟩ := nm_all N3
      rw [← eR3] at N3 G3 hp3
      have hr2 : ∀ q ∈ R2, q ∈ R3 := fun q hq => hp3 _ (.tail _ hq)
      dsimp only
      k_steps
      rename News _ _ _ _ => NX
      rename Fr _ _ _ _ => FX
      unfold Stop
      refine wpAny_call ?_
      k_dflt (refine' alike_spec (rest := R3) ⟨?hB, FX, ?hX, ?hT, ?hf, ?hk⟩ NX ?hd ?hu ((G1.mono hr1).mono hr2) G3 (hgsame lots [] (by rw [List.nil_append, hfl])).1 (hgsame lots [] (by rw [List.nil_append, hfl])).2 (okD_state hok.1.o hok.1.w hok.1.i) hok.1.a (Nat.le_trans hok.2 (by omega)) ?zzB)
      case hB => k_asm
      case hX => k_asm
      case hT => k_asm
      case hf => exact rfl
      case hk => exact rfl
      case hd => k_room
      case hu => decide
      intro h6 tk6 F6 N6
      clear NX FX
      have hrl := hrd.length
      rw [List.length_map] at hrl
      have hro3 := hr2 _ (hp2 _ (hi3 _ hro))
      dsimp only
      k_steps
      rename Fr _ _ _ _ => F0
      unfold Stop
      k_dflt (refine LCg.ListComp_U (F₀ := by k_asm) (by with_unfolding_all rfl) (by decide) (by rfl) (by decide) (by rfl) ?_)
      k_steps
      rename News _ _ _ _ => NX
      rename Fr _ _ _ _ => FX
      obtain ⟨SL, L1, L0', FS, e1, e2, e3, e4⟩ := nm_law NX
      subst e1 e2 e3 e4
      have hs4 : ∀ q ∈ R3, q ∈ (SL, listOf (rvs.drop 1).toArray 0) :: (L1, listOf [Value.ref L0'].toArray 0) :: (L0', listOf ([] : List Value).toArray 0) :: (FS, listOf (rvs.take 1).toArray 0) :: R3 := fun q hq => .tail _ (.tail _ (.tail _ (.tail _ hq)))
      have hSL : (SL, listOf (rvs.drop 1).toArray 0) ∈ (SL, listOf (rvs.drop 1).toArray 0) :: (L1, listOf [Value.ref L0'].toArray 0) :: (L0', listOf ([] : List Value).toArray 0) :: (FS, listOf (rvs.take 1).toArray 0) :: R3 := by k_mem
      have hL1' : (L1, listOf [Value.ref L0'].toArray 0) ∈ (SL, listOf (rvs.drop 1).toArray 0) :: (L1, listOf [Value.ref L0'].toArray 0) :: (L0', listOf ([] : List Value).toArray 0) :: (FS, listOf (rvs.take 1).toArray 0) :: R3 := by k_mem
      have hL0' : (L0', listOf ([] : List Value).toArray 0) ∈ (SL, listOf (rvs.drop 1).toArray 0) :: (L1, listOf [Value.ref L0'].toArray 0) :: (L0', listOf ([] : List Value).toArray 0) :: (FS, listOf (rvs.take 1).toArray 0) :: R3 := by k_mem
      have hFS : (FS, listOf (rvs.take 1).toArray 0) ∈ (SL, listOf (rvs.drop 1).toArray 0) :: (L1, listOf [Value.ref L0'].toArray 0) :: (L0', listOf ([] : List Value).toArray 0) :: (FS, listOf (rvs.take 1).toArray 0) :: R3 := by k_mem
      obtain ⟨B4, eB4⟩ := nm_all NX
      rw [← eB4] at NX hs4 hSL hL1' hL0' hFS
      obtain ⟨hrd1, hrd2⟩ := texts_cut hrd
      have hrl3 : (rows.drop 1).length ≤ 6 := by rw [List.length_drop]; omega
      unfold Stop
      refine LCg.CompSrc.ledger (by rfl) FX NX (its := (rvs.drop 1).toArray) (k := 0) hSL (by rw [sizeLine_eq, List.size_toArray]; have z := hrd2.length; rw [List.length_map] at z; omega) (fun g0 => comp_turns (rvs.drop 1).toArray.size (fun k ys news => ∃ mm, news = mm ++ B4 ∧ LotsIn mm ys (((rows.drop 1).take k).map fun r => [r])) ?turnc ?finc _ 0 [] _ (Nat.zero_add _) ?h0c)
      case h0c => exact ⟨[], rfl, by rw [List.take_zero]; exact .nil⟩
      case turnc =>
        clear NX FX
        rintro kk ys nw hkk ⟨mm, hnwg, hLm⟩ v I oI C oC D m₂ h tk9 E' hv hC hm9 F9 N9 off ne
        rw [hnwg] at N9 off
        obtain ⟨y, ty, rfl, hy⟩ := texts_get hrd2 (i := kk) (v := v) (by simpa using hv)
        k_steps
        rename News _ _ _ _ => NX
        rename Fr _ _ _ _ => FX
        obtain ⟨A1, e1⟩ := nm_first NX
        subst e1
        obtain ⟨z1, z2, z3, -⟩ := (by assumption : I < A1 ∧ C < A1 ∧ D < A1 ∧ _)
        refine LCg.CompEnd.intro FX NX (((A1, listOf [Value.str y ty].toArray 0) :: mm) ++ B4) ?_ ⟨⟨Nat.ne_of_gt z1, Nat.ne_of_gt z2, Nat.ne_of_gt z3⟩, off⟩ (.inr ⟨_, List.mem_append_right _ hSL, rfl, _, rfl⟩) ⟨(A1, listOf [Value.str y ty].toArray 0) :: mm, rfl, ?_⟩
        · intro q hq
          simp only [List.mem_cons, List.mem_append] at hq ⊢
          rcases hq with hq | hq | hq | (hq | hq) | hq <;> simp [hq]
        · rw [List.take_add_one, hy]
          simp only [Option.toList_some, List.map_append, List.map_cons, List.map_nil]
          exact (hLm.mono fun q hq => .tail _ hq).append (.cons (tvs := [.str y ty]) (.head _) (.one (.str _ _)) .nil)
      case finc =>
      clear NX FX
      rintro gvc nw ⟨mmc, hnwg, hLmc⟩
      rw [hnwg]
      have ec : (rows.drop 1).take (rvs.drop 1).toArray.size = (rows.drop 1) := List.take_of_length_le (by have z := hrd2.length; rw [List.length_map] at z; rw [List.size_toArray, z]; exact Nat.le_refl _)
      rw [ec] at hLmc
      unfold LCg.FinE
      intro Dc hc tkc Fc Nc oc
      dsimp only
      have hLc := hLmc.length
      rw [List.length_map] at hLc
      have hrl2 := hrd2.length
      rw [List.length_map] at hrl2
      k_steps
      unfold Stop
      refine add_led (vs := [Value.ref L0']) (n := 0) (ws := gvc) (n' := gvc.length) Fc Nc (.tail _ (List.mem_append_right _ hL1')) (.head _) (by rw [List.length_singleton]; omega) fun AL hAL FA NA lA => ?_
      have hALm : (AL, listOf (Value.ref L0' :: gvc).toArray 0) ∈ (AL, listOf ([Value.ref L0'] ++ gvc).toArray 0) :: (Dc, LCg.lst gvc) :: (mmc ++ B4) := .head _
      have hs5 : ∀ q ∈ B4, q ∈ (AL, listOf ([Value.ref L0'] ++ gvc).toArray 0) :: (Dc, LCg.lst gvc) :: (mmc ++ B4) := fun q hq => .tail _ (.tail _ (List.mem_append_right _ hq))
      have hLcm := hLmc.mono (l' := (AL, listOf ([Value.ref L0'] ++ gvc).toArray 0) :: (Dc, LCg.lst gvc) :: (mmc ++ B4)) fun q hq => .tail _ (.tail _ (List.mem_append_left _ hq))
      obtain ⟨B5, eB5⟩ := nm_all NA
      rw [← eB5] at NA hALm hs5 hLcm
      have hi5 : ∀ q ∈ news, q ∈ B5 := fun q hq => hs5 _ (hs4 _ (hr2 _ (hp2 _ (hi3 q hq))))
      k_steps
      rename News _ _ _ _ => NX
      rename Fr _ _ _ _ => FX
      unfold Stop
      refine wpAny_call ?_
      k_dflt (refine' gone_spec (os := os) (bg := bg) (lots := [] :: (rows.drop 1).map fun r => [r]) (first := rows.take 1) ⟨?hB, FX, ?hX, ?hT, ?hf, ?hk⟩ ?XB ?TB NX ?hd ?hu (hi5 _ hoa) (hO2.mono hi5) (hs5 _ hFS) hrd1 hALm (.cons (tvs := []) (hs5 _ hL0') .nil hLcm) ?htx ?hsz ?hszo ?hszl hbl hbk ?zzC)
      case hB => k_asm
      case hX => k_asm
      case hT => k_asm
      case hf => exact rfl
      case hk => exact rfl
      case XB => k_asm
      case TB => k_asm
      case hd => k_room
      case hu => decide
      case htx => rw [List.flatten_cons, List.nil_append, flat_single, List.take_append_drop]; exact hrx
      case hsz => rw [List.flatten_cons, List.nil_append, flat_single, List.take_append_drop]; omega
      case hszo => omega
      case hszl => simp only [List.length_cons, List.length_map]; omega
      intro v4 h4 tk4 tl4 hd4 F4 N4 ap4
      clear NX FX ap4
      obtain ⟨T4, Fa4, S4, c4, fv4, nf4, e1, G4⟩ := goneD_open (hd4.mono fun q hq => List.mem_append_left B5 hq)
      subst e1
      have hp4 : ∀ q ∈ B5, q ∈ tl4 ++ B5 := fun q hq => List.mem_append_right _ hq
      obtain ⟨R4, eR4⟩ := nm_all N4
      rw [← eR4] at N4 G4 hp4
      have hr3 : ∀ q ∈ R3, q ∈ R4 := fun q hq => hp4 _ (hs5 _ (hs4 _ hq))
      dsimp only
      k_steps
      rename News _ _ _ _ => NX
      rename Fr _ _ _ _ => FX
      unfold Stop
      refine wpAny_call ?_
      k_dflt (refine' alike_spec (rest := R4) ⟨?hB, FX, ?hX, ?hT, ?hf, ?hk⟩ NX ?hd ?hu (((G1.mono hr1).mono hr2).mono hr3) G4 (hgsame ([] :: (rows.drop 1).map fun r => [r]) (rows.take 1) (by rw [List.flatten_cons, List.nil_append, flat_single, List.take_append_drop])).1 (hgsame ([] :: (rows.drop 1).map fun r => [r]) (rows.take 1) (by rw [List.flatten_cons, List.nil_append, flat_single, List.take_append_drop])).2 (okD_state hok.1.o hok.1.w hok.1.i) hok.1.a (Nat.le_trans hok.2 (by omega)) ?zzD)
      case hB => k_asm
      case hX => k_asm
      case hT => k_asm
      case hf => exact rfl
      case hk => exact rfl
      case hd => k_room
      case hu => decide
      intro h7 tk7 F7 N7
      clear NX FX
      dsimp only
      have hoa4 := hp4 _ (hi5 _ hoa)
      have hO4 := hO2.mono fun q hq => hp4 _ (hi5 _ hq)
      have hro4 := hp4 _ (hi5 _ hro)
      have G24 := ((G2.mono hr2).mono hr3)
      obtain ⟨new, hnew, hpair⟩ := gone_singly rows os 0 [] [] bg
      rw [List.drop_zero, List.nil_append] at hnew
      have hok2 := (hgok (rows.map fun r => [r]) [] (by rw [List.nil_append, flat_single])).1.a
      rw [hnew] at hok2
      have hG2d := G24.d
      rw [hnew] at hG2d
      k_steps
      unfold Stop
      (with_unfolding_all refine' For_turns F7 ?_)
      k_steps
      unfold Stop
      refine kim_tup (lo := { cls := .type "tuple", data := .seq #[Value.ref Fa2, Value.ref S2] c2 }) (l := [Value.ref Fa2, Value.ref S2]) N7 G24.t rfl rfl (by decide) (by decide) rfl rfl ?_
      k_steps
      refine ktu_zip (l1 := Oa) (l2 := Fa2) (lo1 := LCg.lst ovs) (lo2 := listOf fv2.toArray nf2) (xs := ovs) (ys := fv2) rfl F7 N7 hoa4 rfl rfl G24.f rfl rfl ?_
      intro I hI
      refine items_loopA (fun items m news => ∃ (vs' ws' : List Value) (os' : List Ord) (fs' : List (List Dat × Nat)), items = zipItems vs' ws' ∧ OrdsIn R4 vs' os' ∧ DatAll R4 ws' (foundL fs') ∧ Paired rows os' fs' ∧ (∀ f ∈ fs', ∀ d ∈ f.1, kqdOk 0 d = true) ∧ news = R4 ∧ m (Str.ofString "rows") = some (.ref Ro)) ?turnz ?lastz _ _ _ ?h0z
      case h0z =>
        refine ⟨ovs, fv2, os, new, rfl, hO4, hG2d, hpair, hok2, rfl, ?_⟩
        (repeat refine Eq.trans (if_neg (by decide)) ?_)
        exact m3
      case lastz =>
        rintro m' news' h9 tk9 ⟨vs', ws', os', fs', hit, hOs, hfs, hpr, hkk, hnw9, hMr⟩ FM9 NM9
        dsimp only
        k_steps
      case turnz =>
        rintro a r m' news' v h9 tk9 sY ⟨vs', ws', os', fs', hit, hOs, hfs, hpr, hkk, hnw9, hMr⟩ hv FM9
        cases hpr with
        | nil =>
          cases hfs
          cases vs' <;> exact absurd hit (by simp [zipItems])
        | cons hal hpr =>
          rename_i od os9 f fs9
          unfold foundL at hfs
          rw [List.map_cons] at hfs
          cases hfs with
          | cons hf1 hfs =>
            cases hOs with
            | cons ho1 ho2 ho3 ho4 hOs =>
              rename_i w0 ws9 Od co kv pv vs9
              injection hit with ha hr
              subst ha
              subst hr
              obtain ⟨aT, cT, la, nla, ti, avs, rfl, hat, hla, had⟩ := found_one hf1
              obtain ⟨T', t0, rfl, hT'⟩ := hv
              dsimp only at hT'
              intro o1 c1 o2 c2 o3 c3 o4 c4 o5 c5 NI PY EY hPY
              rw [hnw9] at NI
              simp only [List.cons_append, List.nil_append] at NI
              have hal0 : Alone rows od f := hal
              obtain ⟨hal1, r, hr9, outs9, hask9, hout9, hks9⟩ := hal0
              clear hal hgok hgsame
              obtain ⟨tr, hrv⟩ := texts_at hrd hr9
              have hfb : f.2 - 1 < rows.length := (List.getElem?_eq_some_iff.mp hr9).1
              have hrm : r ∈ rows := List.mem_of_getElem? hr9
              have hidx : rvs[((f.2 : Int) - 1).toNat]? = some (Value.str r tr) := by
                have e : ((f.2 : Int) - 1).toNat = f.2 - 1 := by omega
                rw [e]; exact hrv
              k_steps
              rename News _ _ _ _ => NX
              rename Fr _ _ _ _ => FX
              have hzR : ∀ q ∈ R4, q ∈ (I + 4, o1) :: (I + 2, o2) :: (I + 3, o3) :: (I, o4) :: (I + 1, o5) :: R4 := fun q hq => .tail _ (.tail _ (.tail _ (.tail _ (.tail _ hq))))
              have hzI : ∀ q ∈ [(I + 4, o1), (I + 2, o2), (I + 3, o3), (I, o4), (I + 1, o5)], q ∈ (I + 4, o1) :: (I + 2, o2) :: (I + 3, o3) :: (I, o4) :: (I + 1, o5) :: R4 := fun q hq => by
                simp only [List.mem_cons, List.not_mem_nil, or_false] at hq ⊢
                rcases hq with hq | hq | hq | hq | hq <;> simp [hq]
              obtain ⟨BZ, eBZ⟩ := nm_all NX
              rw [← eBZ] at NX hzR hzI
              have hroZ := hzR _ hro4
              have hlaZ := hzR _ hla
              have hOdZ := hzR _ ho1
              rename Frag.In _ _ => KX9
              unfold Stop
              refine callWith_K0 (Frag.In.keeps KX9 FX.keep) (by k_dflt k_is) ?_
              k_dflt (refine' world_spec (rest := BZ) ⟨?hB, FX, ?hX, ?hT, ?hf, ?hk⟩ NX ?hd ?zzW)
              case hB => k_asm
              case hX => k_asm
              case hT => k_asm
              case hf => exact rfl
              case hk => exact rfl
              case hd => k_room
              intro dx x io0 oo es0 nes0 tkw9 hw9 hW0 q1 q2 q3 q4 FW NW
              clear NX FX
              obtain ⟨⟨trw, hrw⟩, hiw, how, hlenw⟩ := (id hW0 : WD _ _ _ _)
              have p0 : x ≠ dx := Nat.ne_of_gt q2
              have p1 : oo ≠ dx := Nat.ne_of_gt (Nat.lt_trans q2 q3)
              have p2 : io0 ≠ dx := Nat.ne_of_gt (Nat.lt_trans q2 (Nat.lt_trans q3 q4))
              have p3 : ∀ q ∈ BZ, q.1 ≠ dx := fun q hq => Nat.ne_of_lt (q1 q hq)
              dsimp only
              k_steps
              rename News _ _ _ _ => NX
              unfold Stop
              refine item_at (l := rvs) (NX.isList (by k_mem)) (by omega) (by omega) hidx ?_
              k_steps
              rename News _ _ _ _ => NX
              rename Fr _ _ _ _ => FX
              obtain ⟨IN, eN, nN, e1, e2, e3⟩ := nm_io NX
              subst e1
              rw [← e2, ← e3] at NX
              have hW1 : WD eN (Str.ofString "") IN oo := by rw [e2]; exact hW0.setInp
              obtain ⟨b0, b1, b2, b3, b4⟩ := (by assumption : dx < IN ∧ x < IN ∧ io0 < IN ∧ oo < IN ∧ AllLt IN BZ)
              have NZ := NX.perm (news' := (dx, dictOf eN nN) :: (x, instObj 152 dx) :: (IN, listOf [Value.str r tr].toArray 0) :: (oo, listOf ([] : List Value).toArray 0) :: ((io0, listOf ([] : List Value).toArray 0) :: BZ)) (by
                intro q hq
                simp only [List.mem_cons] at hq ⊢
                rcases hq with hq | hq | hq | hq | hq | hq <;> simp [hq])
              clear NX
              unfold Stop
              refine wpAny_call ?_
              k_dflt (refine' asked_spec (o := od) (c := co) (outs := []) (ins := [r]) (row := Str.ofString "") (ivs := [Value.str r tr]) (ovs := []) (rest := (io0, listOf ([] : List Value).toArray 0) :: BZ) ⟨?hB, FX, ?hX, ?hT, ?hf, ?hk⟩ NZ ?hd ?hu hW1 (.one (.str _ _)) ?hir .nil ?hol ho2 (fun y e => (ho3 y e).1) ?hrl (.tail _ hOdZ) (ho4.mono fun q hq => .tail _ (hzR _ hq)) ?d1 ?d2 ?d3 ?d4 ?d5 ?d6 ?r1 ?r2 ?r3 ?zzP ?zzR)
              case hB => k_asm
              case hX => k_asm
              case hT => k_asm
              case hf => exact rfl
              case hk => exact rfl
              case hd => k_room
              case hu => decide
              case hir => exact fun y hy => by rw [List.mem_singleton.mp hy]; exact hrx r hrm
              case hol =>
                show 0 + 2 * 1 ≤ 900
                decide
              case hrl => exact Nat.zero_le _
              case d1 => exact Nat.ne_of_lt q2
              case d2 => exact Nat.ne_of_lt b0
              case d3 => exact Nat.ne_of_lt (Nat.lt_trans q2 q3)
              case d4 => exact Nat.ne_of_lt b1
              case d5 => exact Nat.ne_of_lt q3
              case d6 => exact Nat.ne_of_gt b3
              case r1 =>
                intro q hq
                rcases List.mem_cons.mp hq with rfl | hq
                · exact p2
                · exact p3 q hq
              case r2 =>
                intro q hq
                rcases List.mem_cons.mp hq with rfl | hq
                · exact Nat.ne_of_gt q4
                · exact Nat.ne_of_lt (Nat.lt_trans (q1 q hq) (Nat.lt_trans q2 q3))
              case r3 =>
                intro q hq
                rcases List.mem_cons.mp hq with rfl | hq
                · exact Nat.ne_of_lt b2
                · exact Nat.ne_of_lt (lt_of_allLt b4 q hq)
              case zzR =>
                intro outs' row' h' tk' e t es' n' ivs' ni' ovs' no' g hask
                rw [hask9] at hask
                cases hask
              case zzP =>
                intro ds outs' row' ins' h' tk' l vs nl es' n' ivs' ni' ovs' no' hask hW' hI' hO' hol' hds FP NP l1 l2 l3 l4 l5
                rw [hask9] at hask
                cases hask
                have hiv0 : ivs' = [] := by cases hI'; rfl
                subst hiv0
                have hov := hO'.length
                rw [List.length_map] at hov
                have hov2 : ovs'.length ≤ 1 := by omega
                have hlz : ovs'.length ≤ 1000000 := by omega
                have hokf : kqdOk 9 (.list f.1) = true := okD_list fun d hd => okD_up (hkk f (.head _) d hd)
                obtain ⟨⟨trw2, hrw2⟩, hiw2, how2, hlenw2⟩ := (id hW' : WD _ _ _ _)
                clear NZ FX
                dsimp only
                k_steps
                rename News _ _ _ _ => NX
                unfold Stop
                refine dat_ne (d := .list f.1) (e := .list f.1) NX (.list (by k_mem) (hds.mono (fun _ hp => absurd hp List.not_mem_nil))) (fun _ h => h) (.list (n := nla) (.tail _ (.tail _ (.tail _ (.tail _ (.tail _ (.tail _ hlaZ)))))) (had.mono fun q hq => .tail _ (.tail _ (.tail _ (.tail _ (.tail _ (.tail _ (hzR _ hq)))))))) (fun _ h => h) hokf hokf (by dsimp only [Around.deeper, callerA]; decide) fun rr hrr => ?_
                have hrr1 : rr = false := by
                  cases rr with
                  | false => rfl
                  | true => exact absurd rfl (hrr.mp rfl)
                subst hrr1
                have hn1 : ¬ ((1 : Int) < (ovs'.length : Int)) := by omega
                have hn2 : ¬ ((ovs'.length : Int) > (1 : Int)) := by omega
                k_steps
                rename News _ _ _ _ => NX
                unfold Stop
                refine dat_ne (d := .list []) (e := .list []) NX (.list (by k_mem) .nil) (fun _ h => h) (.list (by k_mem) .nil) (fun _ h => h) (okD_list (fun _ hp => absurd hp List.not_mem_nil)) (okD_list (fun _ hp => absurd hp List.not_mem_nil)) (by dsimp only [Around.deeper, callerA]; decide) fun rr2 hrr2 => ?_
                have hrr3 : rr2 = false := by
                  cases rr2 with
                  | false => rfl
                  | true => exact absurd rfl (hrr2.mp rfl)
                subst hrr3
                k_steps
                rename News _ _ _ _ => NX
                unfold Stop
                refine kim_tup (lo := { cls := .type "tuple", data := .seq #[kv, pv, .bool od.b] co }) (l := [kv, pv, .bool od.b]) NX (by k_mem) rfl rfl (by decide) (by decide) rfl rfl ?_
                cases hks : od.ks with
                | none =>
                  rw [hks] at ho4
                  have hkv : kv = .none := ho4
                  subst hkv
                  k_steps
                  rename News _ _ _ _ => NX
                  unfold Stop
                  refine item_at (l := rvs) (NX.isList (by k_mem)) (by omega) (by omega) hidx ?_
                  k_steps
                  rename News _ _ _ _ => NX
                  unfold Stop
                  have hlaX := hlaZ
                  refine dat_ne (d := .list f.1) (e := .list f.1) NX (.list (n := nla) (by k_mem) (had.mono fun q hq => by have z := hzR _ hq; simp [z])) (fun _ h => h) (DatIn.list (n := 0) (vs := [.str r tr]) (by k_mem) (by rw [hks9 hks]; exact .one (.str _ _))) (fun _ h => h) hokf hokf (by dsimp only [Around.deeper, callerA]; decide) fun rr4 hrr4 => ?_
                  have hrr5 : rr4 = false := by
                    cases rr4 with
                    | false => rfl
                    | true => exact absurd rfl (hrr4.mp rfl)
                  subst hrr5
                  k_steps
                  rename News _ _ _ _ => NE
                  rename Fr _ _ _ _ => FE
                  refine hPY _ _ _ R4 FE (NE.perm fun q hq => ?_) (fun p hp q hq => ?_) ⟨hoa4, G24.f, trivial⟩ ⟨vs9, ws9, os9, fs9, rfl, hOs, hfs, hpr, fun f' hf' => hkk f' (.tail _ hf'), rfl, ?_⟩
                  · have z : q ∈ BZ := by
                      rcases List.mem_append.mp hq with hq | hq
                      · exact hzI q hq
                      · exact hzR q hq
                    simp [z]
                  · have z1 : @LT.lt Nat _ p.1 I := hI p hp
                    have z2 : @LE.le Nat _ I q.1 := by
                      simp only [List.mem_cons, List.not_mem_nil, or_false] at hq
                      rcases hq with rfl | rfl | rfl | rfl | rfl
                      · exact Nat.le_add_right _ _
                      · exact Nat.le_add_right _ _
                      · exact Nat.le_add_right _ _
                      · exact Nat.le_refl _
                      · exact Nat.le_add_right _ _
                    exact Nat.ne_of_lt (Nat.lt_of_lt_of_le z1 z2)
                  · (repeat refine Eq.trans (if_neg (by decide)) ?_)
                    exact hMr
                | some ks =>
                  rw [hks] at ho4
                  obtain ⟨Kd, kvs, nk, hkv, -⟩ := ho4
                  subst hkv
                  k_steps
                  rename News _ _ _ _ => NE
                  rename Fr _ _ _ _ => FE
                  refine hPY _ _ _ R4 FE (NE.perm fun q hq => ?_) (fun p hp q hq => ?_) ⟨hoa4, G24.f, trivial⟩ ⟨vs9, ws9, os9, fs9, rfl, hOs, hfs, hpr, fun f' hf' => hkk f' (.tail _ hf'), rfl, ?_⟩
                  · have z : q ∈ BZ := by
                      rcases List.mem_append.mp hq with hq | hq
                      · exact hzI q hq
                      · exact hzR q hq
                    simp [z]
                  · have z1 : @LT.lt Nat _ p.1 I := hI p hp
                    have z2 : @LE.le Nat _ I q.1 := by
                      simp only [List.mem_cons, List.not_mem_nil, or_false] at hq
                      rcases hq with rfl | rfl | rfl | rfl | rfl
                      · exact Nat.le_add_right _ _
                      · exact Nat.le_add_right _ _
                      · exact Nat.le_add_right _ _
                      · exact Nat.le_refl _
                      · exact Nat.le_add_right _ _
                    exact Nat.ne_of_lt (Nat.lt_of_lt_of_le z1 z2)
                  · (repeat refine Eq.trans (if_neg (by decide)) ?_)
                    exact hMr)⟩
end
theorem wd_A_33 : True := by
  k_with_none
  k_with "exec While" => (k_here; k_dflt (refine stop_while ?_))
  k_with "exec While BoolOp" => (k_here; k_dflt (refine stop_while ?_))
  k_with "exec While Compare" => (k_here; k_dflt (refine stop_while ?_))
  k_with "TurnEnd" => (dsimp only [TurnEnd])
  k_with "eval Name" => (k_here; k_dflt (refine' ld ?w9k1 ?w9k2 ?_; (case w9k1 => k_asm); (case w9k2 => (repeat refine Eq.trans (if_neg (by decide)) ?_); first | assumption | exact if_pos rfl); k_whole))
  k_with "loadName" => (k_here; k_dflt (refine' ldn ?w9k1 ?w9k2 ?_; (case w9k1 => k_asm); (case w9k2 => (repeat refine Eq.trans (if_neg (by decide)) ?_); first | assumption | exact if_pos rfl); k_whole))
  k_with "exec While Name" => (k_here; k_dflt (refine stop_while ?_))
  k_with "exec While Name cons nil" => (k_here; k_dflt (refine stop_while ?_))
  k_with "last exec While" => (k_here; k_dflt (refine stop_while ?_))
  k_with "exec For" => (k_here; k_dflt (refine stop_for ?_))
  k_with "exec For Tuple" => (k_here; k_dflt (refine stop_for ?_))
  k_with "exec For Tuple Call" => (k_here; k_dflt (refine stop_for ?_))
  k_with "exec For Tuple Call cons nil" => (k_here; k_dflt (refine stop_for ?_))
  k_with "exec For Name" => (k_here; k_dflt (refine stop_for ?_))
  k_with "exec For Name Name" => (k_here; k_dflt (refine stop_for ?_))
  k_with "exec For Name Name cons nil" => (k_here; k_dflt (refine stop_for ?_))
  k_with "exec For Name Call" => (k_here; k_dflt (refine stop_for ?_))
  k_with "exec For Name Call cons nil" => (k_here; k_dflt (refine stop_for ?_))
  k_with "call builtin:len" => (k_here; (with_reducible show wpAny _ _ (call (Value.builtin "len") [Value.ref _]) _ _ _); k_dflt (refine' len_led ?w9N ?w9m ?w9z ?_; (case w9N => k_asm); (case w9m => k_mem); (case w9z => omega); k_whole))
  k_with "call builtin:list.pop" => (k_here; (with_reducible show wpAny _ _ (call (Value.builtin _) [Value.ref _, Value.int _ _]) _ _ _); k_dflt (refine' pop_first ?w9F ?w9N ?w9U ?w9z ?_; (case w9F => k_asm); (case w9N => k_asm); (case w9U => k_upd); (case w9z => omega); k_whole); (intro h_w F_w N_w); (try k_sweep))
  k_with "leaving ref" => (k_here; first
      | (refine' leave_raiseS ?w9k1 ?w9k0 ?w9k2 ?w9k3 ?_; (case w9k0 => first | assumption | exact Heap.MadeExc.of (by assumption)); (case w9k2 => assumption); (case w9k1 => assumption); (case w9k3 => k_asm); k_whole; intro h_w t_w S_w R_w U_w; (try dsimp only at S_w R_w U_w ⊢))
      | (refine' leave_onS ?w9k1 ?w9k2 ?w9k3 ?w9k4 ?_; (case w9k3 => assumption); (case w9k1 => assumption); (case w9k4 => assumption); (case w9k2 => assumption); k_whole; intro h_w S_w R_w U_w; (try dsimp only at S_w R_w U_w ⊢)))
  k_with "call ref" => (k_here; (with_reducible show wpAny _ _ (call (Value.ref 71) _) _ _ _); refine wpAny_call ?_; k_dflt (refine' blank_end_spec ⟨?w9hB, ?w9hF, ?w9hX, ?w9hT, ?w9hf, ?w9hk⟩ ?w9hN ?w9hd ?w9hx ?w9h0 ?w9h1 ?_; (case w9hF => k_asm); (case w9hB => k_asm); (case w9hX => k_asm); (case w9hT => k_asm); (case w9hf => first | exact rfl | assumption); (case w9hk => first | exact rfl | assumption); (case w9hN => k_asm); (case w9hd => k_room); (case w9hx => first | assumption | omega); (case w9h0 => omega); (case w9h1 => omega); k_whole); intro tk_w tk_w_w h_w F_w N_w; (try k_sweep))
  k_with "call ref" => (k_here; (with_reducible show wpAny _ _ (call (Value.ref 78) _) _ _ _); refine wpAny_call ?_; k_dflt (refine' quoted_field_spec ⟨?w9hB, ?w9hF, ?w9hX, ?w9hT, ?w9hf, ?w9hk⟩ ?w9hN ?w9hd ?w9hx ?w9h0 ?w9h1 ?_; (case w9hF => k_asm); (case w9hB => k_asm); (case w9hX => k_asm); (case w9hT => k_asm); (case w9hf => first | exact rfl | assumption); (case w9hk => first | exact rfl | assumption); (case w9hN => k_asm); (case w9hd => k_room); (case w9hx => first | assumption | omega); (case w9h0 => omega); (case w9h1 => first | omega | exact slice_quote (by omega) (by assumption)); k_whole); intro D_w t1_w t2_w tk_w_w h_w hq_w l1_w F_w N_w; (try k_lt l1_w); (try k_sweep))
  k_with "call ref" => (k_here; (with_reducible show wpAny _ _ (call (Value.ref 85) _) _ _ _); refine wpAny_call ?_; k_dflt (refine' field_at_spec ⟨?w9hB, ?w9hF, ?w9hX, ?w9hT, ?w9hf, ?w9hk⟩ ?w9hN ?w9hd ?w9hx ?w9h0 ?w9h1 ?_; (case w9hF => k_asm); (case w9hB => k_asm); (case w9hX => k_asm); (case w9hT => k_asm); (case w9hf => first | exact rfl | assumption); (case w9hk => first | exact rfl | assumption); (case w9hN => k_asm); (case w9hd => k_room); (case w9hx => first | assumption | omega); (case w9h0 => omega); (case w9h1 => omega); k_whole); intro D_w v_w t2_w tk_w_w h_w ho_w l1_w F_w N_w; (try k_lt l1_w); (try k_sweep); ((rcases optV_cases ho_w with ⟨e_w, ev_w⟩ | ⟨y_w, t_w, e_w, ev_w⟩) <;> subst ev_w))
  k_with "call ref" => (k_here; (with_reducible show wpAny _ _ (call (Value.ref 92) _) _ _ _); refine wpAny_call ?_; k_dflt (refine' told_fields_spec ⟨?w9hB, ?w9hF, ?w9hX, ?w9hT, ?w9hf, ?w9hk⟩ ?w9hN ?w9hd ?w9hx ?_; (case w9hF => k_asm); (case w9hB => k_asm); (case w9hX => k_asm); (case w9hT => k_asm); (case w9hf => first | exact rfl | assumption); (case w9hk => first | exact rfl | assumption); (case w9hN => k_asm); (case w9hd => k_room); (case w9hx => first | assumption | omega); k_whole); intro v_w tk_w_w h_w ho_w F_w; (try k_sweep); ((rcases told_cases ho_w with ⟨e_w, ev_w, N_w⟩ | ⟨fs_w, l_w, vs_w, n_w, tl_w, e_w, ev_w, D_w, N_w, l1_w, l2_w, lf_w, ll_w, lv_w⟩) <;> subst ev_w <;> clear ho_w))
  k_with "call ref" => (k_here; (with_reducible show wpAny _ _ (call (Value.ref 180) _) _ _ _); refine wpAny_call ?_; k_dflt (refine' number_spec ⟨?w9hB, ?w9hF, ?w9hX, ?w9hT, ?w9hf, ?w9hk⟩ ?w9hN ?w9hd ?w9hu ?w9hx ?w9ho ?_; (case w9hF => k_asm); (case w9hB => k_asm); (case w9hX => k_asm); (case w9hT => k_asm); (case w9hf => first | exact rfl | assumption); (case w9hk => first | exact rfl | assumption); (case w9hN => k_asm); (case w9hd => k_room); (case w9hu => (dsimp only [Around.deeper, Around.in1, Around.mark]; omega)); (case w9hx => first | assumption | omega); (case w9ho => assumption); k_whole); intro v_w tk_w_w h_w ho_w N_w F_w; (try k_sweep))
  k_with "call ref" => (k_here; (with_reducible show wpAny _ _ (call (Value.ref 99) _) _ _ _); refine wpAny_call ?_; k_dflt (refine' value_spec ⟨?w9hB, ?w9hF, ?w9hX, ?w9hT, ?w9hf, ?w9hk⟩ ?w9hN ?w9hd ?w9hu ?w9hx ?w9ho ?_; (case w9hF => k_asm); (case w9hB => k_asm); (case w9hX => k_asm); (case w9hT => k_asm); (case w9hf => first | exact rfl | assumption); (case w9hk => first | exact rfl | assumption); (case w9hN => k_asm); (case w9hd => k_room); (case w9hu => (dsimp only [Around.deeper, Around.in1, Around.mark]; omega)); (case w9hx => first | assumption | omega); (case w9ho => assumption); k_whole); intro v_w tk_w_w h_w ho_w N_w F_w; (try k_sweep); ((rcases value_three ho_w with ⟨e_w, ev_w⟩ | ⟨y_w, t_w, e_w, ev_w⟩ | ⟨i_w, t_w, e_w, ev_w⟩) <;> subst ev_w))
  k_with "call ref" => (k_here; (with_reducible show wpAny _ _ (call (Value.ref 106) _) _ _ _); refine wpAny_call ?_; k_dflt (refine' fitted_spec ⟨?w9hB, ?w9hF, ?w9hX, ?w9hT, ?w9hf, ?w9hk⟩ ?w9hN ?w9hd ?w9hu ?w9hx ?w9ho ?w9hK ?w9hks ?w9hkl ?_; (case w9hF => k_asm); (case w9hB => k_asm); (case w9hX => k_asm); (case w9hT => k_asm); (case w9hf => first | exact rfl | assumption); (case w9hk => first | exact rfl | assumption); (case w9hN => k_asm); (case w9hd => k_room); (case w9hu => (dsimp only [Around.deeper, Around.in1, Around.mark]; omega)); (case w9hx => first | assumption | omega); (case w9ho => assumption); (case w9hK => k_mem); (case w9hks => assumption); (case w9hkl => assumption); k_whole); intro v_w tk_w_w h_w ho_w F_w; (try k_sweep); ((rcases fit_cases ho_w with ⟨e_w, ev_w, N_w⟩ | ⟨ds_w, l_w, vs_w, n_w, e_w, ev_w, D_w, N_w, l1_w⟩) <;> subst ev_w <;> clear ho_w))
  k_with "setAttr ref" => (k_here; k_dflt (refine' set_dict ?w9k1 ?w9k2 ?w9k3 ?w9k4 ?w9k5 ?w9k6 ?w9k7 ?w9k8 ?w9k9 ?w9k10 ?w9k11 ?w9k12 ?w9k13 ?_; (case w9k1 => k_asm); (case w9k2 => k_asm); (case w9k3 => k_asm); (case w9k4 => k_inst); (case w9k5 => exact rfl); (case w9k6 => k_is); (case w9k7 => k_is); (case w9k8 => k_is); (case w9k9 => k_is); (case w9k10 => k_get); (case w9k11 => exact rfl); (case w9k12 => k_upd); (case w9k13 => (repeat rw [putL_len (by k_get)]); omega); k_whole; intro h_w F_w N_w; (try k_sweep)))
  k_with "call builtin:len" => (k_here; (with_reducible show wpAny _ _ (call (Value.builtin "len") [Value.ref _]) _ _ _); k_dflt (first | (refine' len_ledC ?w9N ?w9m ?w9z ?_; (case w9N => k_asm); (case w9m => k_mem); (case w9z => omega); k_whole) | (refine' len_ledN ?w9N ?w9m ?_; (case w9N => k_asm); (case w9m => k_mem); k_whole)))
  k_with "call ref" => (k_here; (with_reducible show wpAny _ _ (call (Value.ref 120) _) _ _ _); refine wpAny_call ?_; k_dflt (refine' prompt_spec ⟨?w9hB, ?w9hF, ?w9hX, ?w9hT, ?w9hf, ?w9hk⟩ ?w9hN ?w9hd ?w9hW ?w9hO ?w9hol ?w9hp ?w9hpl ?w9hrl ?w9d1 ?w9d2 ?w9d3 ?w9d5 ?w9d6 ?w9r1 ?w9r2 ?_; (case w9hF => k_asm); (case w9hB => k_asm); (case w9hX => k_asm); (case w9hT => k_asm); (case w9hf => first | exact rfl | assumption); (case w9hk => first | exact rfl | assumption); (case w9hN => k_asm); (case w9hd => k_room); (case w9hW => assumption); (case w9hO => assumption); (case w9hol => omega); (case w9hp => assumption); (case w9hpl => assumption); (case w9hrl => assumption); (case w9d1 => assumption); (case w9d2 => assumption); (case w9d3 => assumption); (case w9d5 => assumption); (case w9d6 => assumption); (case w9r1 => assumption); (case w9r2 => assumption); k_whole); intro es_w n_w ovs_w no_w tk_w_w h_w hW_w hO_w hl_w F_w N_w; (try k_sweep); (obtain ⟨⟨tr_w, hr_w⟩, hi_w, ho_w, hlen_w⟩ := (id hW_w)))
  k_with "call ref" => (k_here; (with_reducible show wpAny _ _ (call (Value.ref 134) _) _ _ _); refine wpAny_call ?_; k_dflt (first
      | (refine' ask_line_wait ⟨?w9hB, ?w9hF, ?w9hX, ?w9hT, ?w9hf, ?w9hk⟩ ?w9hN ?w9hd ?w9hW ?_; (case w9hF => k_asm); (case w9hB => k_asm); (case w9hX => k_asm); (case w9hT => k_asm); (case w9hf => first | exact rfl | assumption); (case w9hk => first | exact rfl | assumption); (case w9hN => k_asm); (case w9hd => k_room); (case w9hW => assumption); k_whole; intro e_w t_w tk_w_w h_w g2_w FG2_w U2_w R2_w; (try dsimp only))
      | (refine' ask_line_spec ⟨?w9hB, ?w9hF, ?w9hX, ?w9hT, ?w9hf, ?w9hk⟩ ?w9hN ?w9hd ?w9hW ?w9hrr ?w9hil ?w9hO ?w9hol ?w9hp ?w9hpl ?w9hrl ?w9d1 ?w9d2 ?w9d3 ?w9d4 ?w9d5 ?w9d6 ?w9r1 ?w9r2 ?w9r3 ?_; (case w9hF => k_asm); (case w9hB => k_asm); (case w9hX => k_asm); (case w9hT => k_asm); (case w9hf => first | exact rfl | assumption); (case w9hk => first | exact rfl | assumption); (case w9hN => k_asm); (case w9hd => k_room); (case w9hW => assumption); (case w9hrr => assumption); (case w9hil => omega); (case w9hO => assumption); (case w9hol => omega); (case w9hp => assumption); (case w9hpl => assumption); (case w9hrl => assumption); (case w9d1 => assumption); (case w9d2 => assumption); (case w9d3 => assumption); (case w9d4 => assumption); (case w9d5 => assumption); (case w9d6 => assumption); (case w9r1 => assumption); (case w9r2 => assumption); (case w9r3 => assumption); k_whole; intro es_w n_w ovs_w no_w tk_w_w h_w hW_w hO_w hl_w F_w N_w; (try dsimp only)); (try k_sweep)))
  k_with "call ref" => (k_here; (with_reducible show wpAny _ _ (call (Value.ref 127) _) _ _ _); refine wpAny_call ?_; k_dflt (refine' ask_values_spec ⟨?w9hB, ?w9hF, ?w9hX, ?w9hT, ?w9hf, ?w9hk⟩ ?w9hN ?w9hd ?w9hu ?w9hW ?w9hI ?w9hir ?w9hO ?w9hol ?w9hp ?w9hpl ?w9hrl ?w9hK ?w9hks ?w9hkl ?w9d1 ?w9d2 ?w9d3 ?w9d4 ?w9d5 ?w9d6 ?w9r1 ?w9r2 ?w9r3 (fun ds_w outs_w row_w ins_w h_w tk_w l_w vs_w nl_w es_w n_w ivs_w ni_w ovs_w no_w e_w hW_w hI_w hO_w hol_w hds_w F_w N_w l1_w l2_w l3_w l4_w l5 => ?_) (fun outs_w row_w h_w tk_w e_w t_w es_w n_w ivs_w ni_w ovs_w no_w g2_w ee_w hW_w hI_w hO_w hol_w hrl_w FG2_w U2_w R2_w => ?_); (case w9hF => k_asm); (case w9hB => k_asm); (case w9hX => k_asm); (case w9hT => k_asm); (case w9hf => first | exact rfl | assumption); (case w9hk => first | exact rfl | assumption); (case w9hN => k_asm); (case w9hd => k_room); (case w9hu => (dsimp only [Around.deeper, Around.in1, Around.mark]; omega)); (case w9hW => assumption); (case w9hI => assumption); (case w9hir => assumption); (case w9hO => assumption); (case w9hol => omega); (case w9hp => assumption); (case w9hpl => assumption); (case w9hrl => assumption); (case w9hK => k_mem); (case w9hks => assumption); (case w9hkl => assumption); (case w9d1 => assumption); (case w9d2 => assumption); (case w9d3 => assumption); (case w9d4 => assumption); (case w9d5 => assumption); (case w9d6 => assumption); (case w9r1 => assumption); (case w9r2 => assumption); (case w9r3 => assumption); (try dsimp only); (try k_sweep)))
  k_with "subscriptTail Name Slice ref ref" => (k_here; (with_reducible show wpAny _ _ (subscriptTail _ (PySem.Expr.Slice _ _ none _) (Value.ref _) (Value.ref _)) _ _ _); k_dflt (refine' kms_slice_lit ?w9F ?w9N ?w9l ?w9p ?w9q ?w9e ?_ ?w9s ?w9t ?w9z; (case w9F => k_asm); (case w9N => k_asm); (case w9l => kmk_list); (case w9p => kmk_part); (case w9q => kmk_part); (case w9e => first | exact pick_all _ | exact pick_first _ | exact pick_rest _ | exact pick_init _); (case w9s => with_unfolding_all rfl); (case w9t => kmk_pure); (case w9z => rw [List.size_toArray, sizeLine_eq]; omega)); intro D_w h_w F_w N_w l1_w; (try k_lt l1_w); (try k_sweep))
  k_with "call ref" => (k_here; (with_reducible show wpAny _ _ (call (Value.ref 194) _) _ _ _); refine wpAny_call ?_; k_dflt (refine' state_spec ⟨?w9hB, ?w9hF, ?w9hX, ?w9hT, ?w9hf, ?w9hk⟩ ?w9hN ?w9hd ?w9hW ?w9hI ?w9hO ?w9hol ?w9hil ?_; (case w9hF => k_asm); (case w9hB => k_asm); (case w9hX => k_asm); (case w9hT => k_asm); (case w9hf => first | exact rfl | assumption); (case w9hk => first | exact rfl | assumption); (case w9hN => k_asm); (case w9hd => k_room); (case w9hW => assumption); (case w9hI => assumption); (case w9hO => assumption); (case w9hol => omega); (case w9hil => omega); k_whole); intro D_w D1_w D2_w t_w h_w tk_w q1_w q2_w q3_w F_w N_w; (try simp only [AllLt] at q3_w); (try k_sweep))
  k_with "call ref" => (k_here; (with_reducible show wpAny _ _ (call (Value.ref 152) _ _) _ _ _); k_dflt (refine' world_spec ⟨?w9hB, ?w9hF, ?w9hX, ?w9hT, ?w9hf, ?w9hk⟩ ?w9hN ?w9hd ?_; (case w9hF => k_asm); (case w9hB => k_asm); (case w9hX => k_asm); (case w9hT => k_asm); (case w9hf => first | exact rfl | assumption); (case w9hk => first | exact rfl | assumption); (case w9hN => k_asm); (case w9hd => k_room); k_whole); intro dx_w x_w io_w oo_w es_w n_w tk_w h_w hW_w q1_w q2_w q3_w q4_w F_w N_w; (try k_sweep); (obtain ⟨⟨tr_w, hr_w⟩, hi_w, ho_w, hlen_w⟩ := (id hW_w)))
  trivial
end Mine
theorem PySem.Challenge.cw_sm0001_01_holds : PySem.Challenge.rw_sm0001_01.Holds := by
  exact Mine.law_holds
