import PyProof.Rows.All
import Wide.All
import OpenK.AllK
import Wide.FinOn
import PySem.Challenge.RW_np0184_01

set_option Elab.async false
set_option compiler.extract_closed false
set_option maxRecDepth 100000
set_option maxHeartbeats 4000000

section
open PySem PySem.W PyProof.Rows PySem.Calls
set_option maxRecDepth 100000
set_option maxHeartbeats 8000000
namespace Np

theorem left_run {p q : Program} {loose : List Str} {Xt : Shared → Bool} {α : Type} {Yf : Shared → α} {Ya : World → α} {N : Nat} {H₀ : Params → Heap} {gs₀ : Array GenState} {d₀ : Drawn} {k₀ : Nat} {m₀ : Nat} {ann : Option Value} {M : Nat}
    (open_ : ∀ w : World, (fencedOpening treeTable p w N).map (fun s => (s.heap, s.gens, s.drawn, s.toks)) = some (H₀ w.params, gs₀, d₀, k₀))
    (size : ∀ w : World, ((H₀ w.params).isNs mainGlobals && gs₀.size == 0, (H₀ w.params).objs.size, (H₀ w.params).nsMap mainGlobals "__annotations__") = (true, m₀, ann))
    (le : Nat.ble M N = true)
    (run : ∀ (w : World) (os : OsState), (topRun treeTable p w m₀ ann M ⟨H₀ w.params, gs₀, d₀, k₀, os⟩ (topStub p)).map (fun s => (staticsOk (importedModules p.main.body) (H₀ w.params) s.heap && namesBound p s.heap && gensDone s && laidKept (H₀ w.params) s.heap,
        openSeen q loose (importedModules p.main.body) Xt true s, Yf s)) = some (true, openGood q loose, Ya w)) : LeftO p q loose Xt Yf Ya N true := fun w => by
  obtain ⟨⟨h, gs, d, k, os⟩, e, e'⟩ := Option.map_eq_some_iff.mp (open_ w)
  obtain ⟨rfl, rfl, rfl, rfl⟩ : h = H₀ w.params ∧ gs = gs₀ ∧ d = d₀ ∧ k = k₀ := by simpa using e'
  obtain ⟨z1, z2, z3⟩ : _ ∧ _ ∧ _ := by simpa only [Prod.mk.injEq] using size w
  obtain ⟨s₁, r0, l⟩ := Option.map_eq_some_iff.mp (run w os)
  obtain ⟨l1, l2, l3⟩ : _ ∧ _ ∧ _ := by simpa only [Prod.mk.injEq] using l
  have r := topRun_mono (N - M) _ _ _ _ r0
  rw [show M + (N - M) = N by have := Nat.le_of_ble_eq_true le; omega] at r
  have t : topFrom treeTable p w N ⟨H₀ w.params, gs, d, k, os⟩ = some s₁ := by
    unfold topFrom
    dsimp only
    rw [z1, z2, z3, r]
    show (match staticsOk (importedModules p.main.body) (H₀ w.params) s₁.heap && namesBound p s₁.heap && gensDone s₁ && laidKept (H₀ w.params) s₁.heap with | true => _ | false => _) = _
    rw [l1]
  unfold openEnds
  rw [e]
  show (topFrom treeTable p w N _).map _ = _
  rw [t]
  exact congrArg some (Prod.ext l2 l3)

abbrev pN : Program := (PySem.Challenge.rw_np0184_01.row.toRowW).1
noncomputable def vw : Program := PySem.W.view pN [1,2,4,5,6,8,9,10,11,12,13,14,15]
theorem boots : ∀ w : World, (fencedOpening treeTable pN w 3416).map (fun s => (s.heap, s.gens, s.drawn, s.toks)) = some (boot_heap w.params, Array.mk [], boot_drawn, boot_toks) := boot_open (by kernel_rfl) (by decide) (fun s => by kernel_rfl)
theorem sized : ∀ w : World, ((boot_heap w.params).isNs mainGlobals && (Array.mk [] : Array GenState).size == 0, (boot_heap w.params).objs.size, (boot_heap w.params).nsMap mainGlobals "__annotations__") = (true, 11, some (.ref 6)) := fun w => by kernel_rfl
theorem said_ok : PySem.Challenge.rw_np0184_01.wellSaid = true := (congrFun PySem.W.Fast.te9446332074065402090 _).trans (by kernel_rfl)
noncomputable abbrev xtN (s : Shared) : Bool := xlAt vw [] s && recOk (RowW.records PySem.Challenge.rw_np0184_01.row.toRowW) s

theorem ran {α : Type} {Yf : Shared → α} {Ya : World → α}
    (H : ∀ (w : World) (os : OsState), (PySem.W.Fast.tw14082659384304107361 PySem.W.Fast.tw14364793385576792824 pN w 11 (some (.ref 6)) 1666 ⟨boot_heap w.params, Array.mk [], boot_drawn, boot_toks, os⟩ (topStub pN)).map (fun s => (staticsOk (importedModules pN.main.body) (boot_heap w.params) s.heap && namesBound pN s.heap && gensDone s && laidKept (boot_heap w.params) s.heap,
        PySem.W.Fast.tw4187177175401517315 vw [] (importedModules pN.main.body) xtN true s, Yf s)) = some (true, openGood vw [], Ya w)) : LeftO pN vw [] xtN Yf Ya 3416 true := by
  refine left_run boots sized (by decide) (M := 1666) ?_
  rw [PySem.W.Fast.te14082659384304107361, PySem.W.Fast.te14364793385576792824, PySem.W.Fast.te4187177175401517315]
  exact H
local macro_rules | `(tactic| o_law) => `(tactic| refine holds_law said_ok fun said => ?_)
theorem hopen (K : Hook) {d : _} {kwd : _} (left : LeftO pN vw [] xtN K.obs K.val 3416 true) (hdef : defOf vw PySem.Challenge.rw_np0184_01.row.name = some (d, kwd)) (hp : pN.theDef PySem.Challenge.rw_np0184_01.row.name = some (d.params, d.body, d.scope)) (hk : kwWritten? d.params.kwonlyargs d.params.kw_defaults = some kwd)
    (hw : PySem.Challenge.rw_np0184_01.row.toRowW.promised) (call : WalkO vw [] (XL vw []) K.says PySem.Challenge.rw_np0184_01.row.toRowW d kwd fun f vs => PySem.call f vs) : PySem.Challenge.rw_np0184_01.row.Holds :=
  holds_open (q := vw) (loose := []) (Xt := xtN) (XP := XL vw []) (Yf := K.obs) (Ya := K.val) (YP := K.says) (N := 3416) left K.of K.keeps (fun s e => xl_of s (Bool.and_eq_true_iff.mp e).1) XL.keeps hdef hp hk (fun s e => recFacts_of (Bool.and_eq_true_iff.mp e).2) (by rfl) (row_said said_ok) (by decide +kernel) ⟨rfl, rfl, rfl, rfl, rfl, by decide +kernel⟩ hw call
local macro_rules | `(tactic| o_head $H) => `(tactic| refine hopen $H (ran fun w os => by kernel_rfl) (by rfl) (by rfl) (by rfl) ?hw ?hc)
open_top hd for PySem.Challenge.rw_np0184_01
end Np
end

open PySem PySem.W PyProof.Rows PySem.Calls PySem.Spec
namespace Np

section
/-- every object outside D stands as it stood -/
noncomputable def KeepBut (D : List Addr) (h h' : Heap) : Prop := ∀ b o, b ∉ D → h.get? b = some o → h'.get? b = some o

noncomputable abbrev LS : List Str := looseW Np.vw [] ++ (recsOf Np.vw).map (·.name) ++ (litsOf Np.vw).map (·.1) ++ (clssOf Np.vw (looseW Np.vw [])).map (·.name)
/-- the text's top, at the law's own ground -/
structure Gr (w : World) (h₀ : Heap) : Prop where
  X : (Np.hd.heap_1 w.params).In h₀
  T : ∃ mean mg mb, Top topProg LS mean mg mb h₀

noncomputable abbrev Pg : Program := PySem.Challenge.rw_np0184_01.row.prog

section
variable {w : World} {A : Around} {s : Shared} {h₀ : Heap} {D : List (Addr × Obj)} {R : Result → Shared → Prop}
    {name qual : Str} {params : Arguments} {body : List Stmt} {scope : Scope} {dV kV doc pm cdv ct oc : Value} {an od : Option Addr} {osl : Array (Option Value)} {f : Addr} {args : Args} {binds : List (Str × Value)}
theorem enter_code
    (G : Gr w h₀) (hk : ∀ b o, h₀.get? b = some o → s.heap.get? b = some o) (hD : ∀ q ∈ D, s.heap.get? q.1 = some q.2 ∧ h₀.get? q.1 = none)
    (ho : (Np.hd.heap_1 w.params).lookup f = some ⟨oc, od, .func (fnOf name qual params body scope dV kV doc pm an cdv ct), osl⟩) (hcd : codeIn (Np.hd.heap_1 w.params) cdv qual = true) (hroom : A.depth < recursionLimit)
    (hbind : BindsTo s (fnOf name qual params body scope dV kV doc pm an cdv ct) args binds) (hloc : ∀ y ∈ binds, scope.names.lookup y.1 = some .local)
    (h : ∀ g L' h₁ mean mg mb, Fr g L' h₁ (fun y => binds.reverse.lookup y) → News g L' h₁ D → (Np.hd.heap_1 w.params).In g → Top topProg LS mean mg mb g → Gr w g → GSub s.heap g (D.map (·.1)) →
      wpAny (model Pg w) (A.deeper (envOf qual scope L' f cdv)) (execs body (envOf qual scope L' f cdv))
        (fun fl s' => R (.ok (.ret (match fl with | .ret v => v | _ => .none))) s') (fun _ _ => False)
        { s with heap := h₁, toks := s.toks + binds.length })
    (hco : scope.isCoroutine = false) (hgen : scope.isGenerator = false) (hks : scope.kind = .function)
    (hcell : ∀ x ∈ scope.names, x.2 ≠ .cell) : codeAny (model Pg w) A (.call (.ref f) args) R s := by
  obtain ⟨X₀, mean, mg, mb, T⟩ := G
  have st : h₀.StaysIn (hideAll s.heap (D.map (·.1))) := fun b o e => hideAll_get _ (hk b o e) fun q => by
    obtain ⟨p, hp, rfl⟩ := List.mem_map.mp q
    rw [(hD p hp).2] at e; cases e
  refine codeAny_call_def (fd := fnOf name qual params body scope dV kV doc pm an cdv ct) (body := body) (binds := binds) hroom (hk _ _ (X₀ _ _ ho)) rfl (T.nolimit.keeps hk) (codeRec_of (X₀.keeps hk) hcd) rfl hbind hcell hloc (fun h₁ hns hk₁ => ?_) hco hgen hks
  refine wpAny_mono (h _ s.heap.objs.size h₁ mean mg mb ⟨hns, fun b o e => hk₁ b o (of_hideAll _ e), Nat.le_of_eq (hideAll_size _ _)⟩
    (fun p hp => ⟨hk₁ _ _ (hD p hp).1, Nat.ne_of_lt (Heap.lt_size (hD p hp).1), hideAll_none _ (List.mem_map_of_mem hp)⟩) (X₀.keeps st) (T.keeps st) ⟨X₀.keeps st, mean, mg, mb, T.keeps st⟩ (fun b o e n => hideAll_get _ e n)) (fun fl s' hl => hl) fun _ _ y => y.elim
/-- the same where the def has cells -/
theorem enterX_code
    (G : Gr w h₀) (hk : ∀ b o, h₀.get? b = some o → s.heap.get? b = some o) (hD : ∀ q ∈ D, s.heap.get? q.1 = some q.2 ∧ h₀.get? q.1 = none)
    (ho : (Np.hd.heap_1 w.params).lookup f = some ⟨oc, od, .func (fnOf name qual params body scope dV kV doc pm an cdv ct), osl⟩) (hcd : codeIn (Np.hd.heap_1 w.params) cdv qual = true) (hroom : A.depth < recursionLimit)
    (hbind : BindsTo s (fnOf name qual params body scope dV kV doc pm an cdv ct) args binds) (hkind : (binds.all fun y => scope.names.lookup y.1 == some .local || scope.names.lookup y.1 == some .cell) = true)
    (hnd : ((cellsFrom 0 scope.names []).map (·.1)).Nodup)
    (h : ∀ g L' h₁ tk mean mg mb cells, Fr g L' h₁ (bindL (envOfC qual scope L' f cdv).kindOf binds fun _ => none) → News g L' h₁ (cells ++ D) → CellsAre (bindC (envOfC qual scope L' f cdv).kindOf binds fun _ => none) (cellsFrom (L' + 1) scope.names []) cells →
      (∀ p ∈ D, p.1 < L') → (Np.hd.heap_1 w.params).In g → Top topProg LS mean mg mb g → Gr w g → GSub s.heap g (D.map (·.1)) →
      wpAny (model Pg w) (A.deeper (envOfC qual scope L' f cdv)) (execs body (envOfC qual scope L' f cdv))
        (fun fl s' => R (.ok (.ret (match fl with | .ret v => v | _ => .none))) s') (fun _ _ => False)
        { s with heap := h₁, toks := tk })
    (hco : scope.isCoroutine = false) (hgen : scope.isGenerator = false) (hks : scope.kind = .function) : codeAny (model Pg w) A (.call (.ref f) args) R s := by
  obtain ⟨X₀, mean, mg, mb, T⟩ := G
  have st : h₀.StaysIn (hideAll s.heap (D.map (·.1))) := fun b o e => hideAll_get _ (hk b o e) fun q => by
    obtain ⟨p, hp, rfl⟩ := List.mem_map.mp q
    rw [(hD p hp).2] at e; cases e
  refine codeAny_call_function (fd := fnX name qual params body scope [] dV kV doc pm an cdv ct) hroom (hk _ _ (X₀ _ _ ho)) rfl hco hgen rfl (codeRec_of (X₀.keeps hk) hcd) (hbind _ _ _ _ ?_)
  refine wpAny_newFunctionEnv_cells hks (kindsX hkind _) fun env' he s' x => ?_
  subst he
  refine ⟨(T.nolimit.keeps hk).keeps x.toInCall.keep, codeAny_func ?_⟩
  obtain ⟨h₁, tk, rfl, _⟩ := x.done
  have up := x.toInCall.keep
  obtain ⟨cells, NC, Y⟩ := Cl.news (h₀ := s.heap) (Nat.le_refl _) fun n c hm => ⟨x.cell n c (lookup_of_mem_nodup (cellsFrom_names scope.names 0 (s.heap.objs.size + 1) [] [] rfl ▸ hnd) hm), x.above n c hm⟩
  refine wpAny_mono (h _ s.heap.objs.size h₁ tk mean mg mb cells ⟨x.toInCall.ns, fun b o e => up b o (of_hideAll _ e), Nat.le_of_eq (hideAll_size _ _)⟩ (fun p hp => ?_) Y (fun p hp => Heap.lt_size (hD p hp).1) (X₀.keeps st) (T.keeps st) ⟨X₀.keeps st, mean, mg, mb, T.keeps st⟩ (fun b o e n => hideAll_get _ e n)) (fun fl s' hl => hl) fun _ _ y => y.elim
  rcases List.mem_append.mp hp with hp | hp
  · refine ⟨(NC p hp).1, (NC p hp).2.1, ?_⟩
    cases q : (hideAll s.heap (D.map (·.1))).get? p.1 with
    | none => rfl
    | some o => have := of_hideAll _ q; rw [(NC p hp).2.2] at this; cases this
  · exact ⟨up _ _ (hD p hp).1, Nat.ne_of_lt (Heap.lt_size (hD p hp).1), hideAll_none _ (List.mem_map_of_mem hp)⟩
/-- an own class is called: a new object with an empty dict, then its __init__ -/
theorem make_code {C fI : Addr} {rest : List Value} (G : Gr w h₀) (hk : ∀ b o, h₀.get? b = some o → s.heap.get? b = some o) (hm : makesIn (Np.hd.heap_1 w.params) C = true)
    (hi : findIn (Np.hd.heap_1 w.params) (.ref C) "__init__" = some (some (.ref fI))) (hf : typeIn (Np.hd.heap_1 w.params) (.ref fI) = some (.type "function"))
    (h : ∀ x d h', x = s.heap.objs.size + 1 → d = s.heap.objs.size → (∀ b o, s.heap.get? b = some o → h'.get? b = some o) → h'.get? x = some (instObj C d) → h'.get? d = some (dictOf [] 0) →
      codeAny (model Pg w) (A.under (.builtin "type.__call__" ⟨.ref C :: rest, []⟩)) (.call (.ref fI) ⟨.ref x :: rest, []⟩) (InitBack x R) { s with heap := h' }) : codeAny (model Pg w) A (.call (.ref C) ⟨rest, []⟩) R s := by
  have X : (Np.hd.heap_1 w.params).In s.heap := G.X.keeps hk
  obtain ⟨hh, gs, dr, tk, os⟩ := s
  refine make_core (makes_of X hm) (looks_findIn X hi) (fun self => bind_fn X self hf) (.inl rfl) (h _ _ _ rfl rfl (fun b o e => Heap.get?_push_of_some _ (Heap.get?_push_of_some _ e)) ?_ (Heap.get?_push_of_some _ (Heap.get?_push_size _ rfl)))
  have := Heap.get?_push_size (hh.push emptyDict) (o := instObj C hh.objs.size) rfl
  rwa [Heap.size_push] at this
end
theorem enter {w : World} {A : Around} {s : Shared} {h₀ : Heap} {D : List (Addr × Obj)} {Q E : Value → Shared → Prop}
    {name qual : Str} {params : Arguments} {body : List Stmt} {scope : Scope} {dV kV doc pm cdv ct oc : Value} {an od : Option Addr} {osl : Array (Option Value)} {f : Addr} {args : List Value} {binds : List (Str × Value)}
    (G : Gr w h₀) (hk : ∀ b o, h₀.get? b = some o → s.heap.get? b = some o) (hD : ∀ q ∈ D, s.heap.get? q.1 = some q.2 ∧ h₀.get? q.1 = none)
    (ho : (Np.hd.heap_1 w.params).lookup f = some ⟨oc, od, .func (fnOf name qual params body scope dV kV doc pm an cdv ct), osl⟩) (hcd : codeIn (Np.hd.heap_1 w.params) cdv qual = true) (hroom : A.depth < recursionLimit)
    (hbind : BindsTo s (fnOf name qual params body scope dV kV doc pm an cdv ct) ⟨args, []⟩ binds) (hloc : ∀ y ∈ binds, scope.names.lookup y.1 = some .local)
    (h : ∀ g L' h₁ mean mg mb, Fr g L' h₁ (fun y => binds.reverse.lookup y) → News g L' h₁ D → (Np.hd.heap_1 w.params).In g → Top topProg LS mean mg mb g → Gr w g → GSub s.heap g (D.map (·.1)) →
      wpAny (model Pg w) (A.deeper (envOf qual scope L' f cdv)) (execs body (envOf qual scope L' f cdv))
        (fun fl s' => Q (match fl with | .ret v => v | _ => .none) s') (fun _ _ => False)
        { s with heap := h₁, toks := s.toks + binds.length })
    (hco : scope.isCoroutine = false) (hgen : scope.isGenerator = false) (hks : scope.kind = .function)
    (hcell : ∀ x ∈ scope.names, x.2 ≠ .cell) : wpAny (model Pg w) A (call (.ref f) args) Q E s :=
  wpAny_call (enter_code G hk hD ho hcd hroom hbind hloc h hco hgen hks hcell)
theorem enterX {w : World} {A : Around} {s : Shared} {h₀ : Heap} {D : List (Addr × Obj)} {Q E : Value → Shared → Prop}
    {name qual : Str} {params : Arguments} {body : List Stmt} {scope : Scope} {dV kV doc pm cdv ct oc : Value} {an od : Option Addr} {osl : Array (Option Value)} {f : Addr} {args : List Value} {binds : List (Str × Value)}
    (G : Gr w h₀) (hk : ∀ b o, h₀.get? b = some o → s.heap.get? b = some o) (hD : ∀ q ∈ D, s.heap.get? q.1 = some q.2 ∧ h₀.get? q.1 = none)
    (ho : (Np.hd.heap_1 w.params).lookup f = some ⟨oc, od, .func (fnOf name qual params body scope dV kV doc pm an cdv ct), osl⟩) (hcd : codeIn (Np.hd.heap_1 w.params) cdv qual = true) (hroom : A.depth < recursionLimit)
    (hbind : BindsTo s (fnOf name qual params body scope dV kV doc pm an cdv ct) ⟨args, []⟩ binds) (hkind : (binds.all fun y => scope.names.lookup y.1 == some .local || scope.names.lookup y.1 == some .cell) = true)
    (hnd : ((cellsFrom 0 scope.names []).map (·.1)).Nodup)
    (h : ∀ g L' h₁ tk mean mg mb cells, Fr g L' h₁ (bindL (envOfC qual scope L' f cdv).kindOf binds fun _ => none) → News g L' h₁ (cells ++ D) → CellsAre (bindC (envOfC qual scope L' f cdv).kindOf binds fun _ => none) (cellsFrom (L' + 1) scope.names []) cells →
      (∀ p ∈ D, p.1 < L') → (Np.hd.heap_1 w.params).In g → Top topProg LS mean mg mb g → Gr w g → GSub s.heap g (D.map (·.1)) →
      wpAny (model Pg w) (A.deeper (envOfC qual scope L' f cdv)) (execs body (envOfC qual scope L' f cdv))
        (fun fl s' => Q (match fl with | .ret v => v | _ => .none) s') (fun _ _ => False)
        { s with heap := h₁, toks := tk })
    (hco : scope.isCoroutine = false) (hgen : scope.isGenerator = false) (hks : scope.kind = .function) : wpAny (model Pg w) A (call (.ref f) args) Q E s :=
  wpAny_call (enterX_code G hk hD ho hcd hroom hbind hkind hnd h hco hgen hks)

theorem fill : PySem.Challenge.rw_np0184_01 = PySem.Challenge.rw_np0184_01 ∧ Np.hd.heap_1 = Np.hd.heap_1 := by k_fill; exact ⟨rfl, rfl⟩

/-- an object of the ground, as one of a class -/
theorem InstAt.of_base {g h : Heap} {L x C dx : Addr} {m : Str → Option Value} {od : Obj} (F : Fr g L h m) (h1 : g.get? x = some (instObj C dx)) (h2 : g.get? dx = some od) :
    InstAt h x (instObj C dx) C (some od) := ⟨F.keep _ _ h1, rfl, rfl, F.keep _ _ h2⟩
theorem InstAt.of_mixed {g h : Heap} {L x C dx : Addr} {m : Str → Option Value} {od : Obj} {news : List (Addr × Obj)} (F : Fr g L h m) (h1 : g.get? x = some (instObj C dx)) (N : News g L h news) (h2 : (dx, od) ∈ news) :
    InstAt h x (instObj C dx) C (some od) := ⟨F.keep _ _ h1, rfl, rfl, (N _ h2).1⟩

/-- a stream's data -/
structure St where
  way : Int
  low : Int
  high : Int
  reached : Option Int
  far : Int
  stamp : Int
noncomputable def optV : Option Int → Tok → Value
  | none, _ => .none
  | some r, t => .int r t
noncomputable def sEs (q : Nat → Int × Tok) (t : Nat → Tok) (σ : St) : List DictEntry := [⟨(q 0).1, .str (Str.ofString "way") (q 0).2, .int σ.way (t 0)⟩, ⟨(q 1).1, .str (Str.ofString "low") (q 1).2, .int σ.low (t 1)⟩, ⟨(q 2).1, .str (Str.ofString "high") (q 2).2, .int σ.high (t 2)⟩,
  ⟨(q 3).1, .str (Str.ofString "reached") (q 3).2, optV σ.reached (t 3)⟩, ⟨(q 4).1, .str (Str.ofString "far") (q 4).2, .int σ.far (t 4)⟩, ⟨(q 5).1, .str (Str.ofString "stamp") (q 5).2, .int σ.stamp (t 5)⟩]
noncomputable def StAt (h : Heap) (x d : Addr) (σ : St) : Prop := ∃ q t, h.get? x = some (instObj 98 d) ∧ h.get? d = some (dictOf (sEs q t σ) 6)
/-- everything that stood stands -/
noncomputable def Up (h h' : Heap) : Prop := ∀ b o, h.get? b = some o → h'.get? b = some o
theorem Up.refl {h : Heap} : Up h h := fun _ _ e => e
theorem Up.trans {a b c : Heap} (x : Up a b) (y : Up b c) : Up a c := fun _ _ e => y _ _ (x _ _ e)
theorem StAt.up {h h' : Heap} {x d : Addr} {σ : St} (S : StAt h x d σ) (u : Up h h') : StAt h' x d σ := let ⟨q, t, a, b⟩ := S; ⟨q, t, u _ _ a, u _ _ b⟩
theorem up_of {s g h : Heap} {L : Addr} {m : Str → Option Value} (G : GSub s g []) (F : Fr g L h m) : Up s h := fun b o e => F.keep b o (G b o e (by simp))
/-- the ground and the ledger's own objects -/
theorem up_of_news {s g h : Heap} {L : Addr} {m : Str → Option Value} {D news : List (Addr × Obj)} (G : GSub s g (D.map (·.1))) (F : Fr g L h m) (N : News g L h news) (hD : ∀ q ∈ D, s.get? q.1 = some q.2) (hs : ∀ q ∈ D, q ∈ news) : Up s h := fun b o e => by
  by_cases hb : b ∈ D.map (·.1)
  · obtain ⟨q, hq, rfl⟩ := List.mem_map.mp hb
    have := hD q hq
    rw [this] at e
    cases e
    exact (N q (hs q hq)).1
  · exact F.keep b o (G b o e hb)
theorem StAt.mk' {h : Heap} {x d : Addr} {h0 h1 h2 h3 h4 h5 : Int} {k0 k1 k2 k3 k4 k5 t0 t1 t2 t3 t4 t5 : Tok} {w l hi f st : Int} {r : Option Int} (hx : h.get? x = some (instObj 98 d))
    (hd : h.get? d = some (dictOf [⟨h0, .str (Str.ofString "way") k0, .int w t0⟩, ⟨h1, .str (Str.ofString "low") k1, .int l t1⟩, ⟨h2, .str (Str.ofString "high") k2, .int hi t2⟩, ⟨h3, .str (Str.ofString "reached") k3, optV r t3⟩, ⟨h4, .str (Str.ofString "far") k4, .int f t4⟩, ⟨h5, .str (Str.ofString "stamp") k5, .int st t5⟩] 6)) :
    StAt h x d ⟨w, l, hi, r, f, st⟩ :=
  ⟨fun i => match i with | 0 => (h0, k0) | 1 => (h1, k1) | 2 => (h2, k2) | 3 => (h3, k3) | 4 => (h4, k4) | _ => (h5, k5), fun i => match i with | 0 => t0 | 1 => t1 | 2 => t2 | 3 => t3 | 4 => t4 | _ => t5, hx, hd⟩
theorem StAt.mkS {h : Heap} {x d : Addr} {h0 h1 h2 h3 h4 h5 : Int} {k0 k1 k2 k3 k4 k5 t0 t1 t2 t3 t4 t5 : Tok} {w l hi f st r : Int} (hx : h.get? x = some (instObj 98 d))
    (hd : h.get? d = some (dictOf [⟨h0, .str (Str.ofString "way") k0, .int w t0⟩, ⟨h1, .str (Str.ofString "low") k1, .int l t1⟩, ⟨h2, .str (Str.ofString "high") k2, .int hi t2⟩, ⟨h3, .str (Str.ofString "reached") k3, .int r t3⟩, ⟨h4, .str (Str.ofString "far") k4, .int f t4⟩, ⟨h5, .str (Str.ofString "stamp") k5, .int st t5⟩] 6)) :
    StAt h x d ⟨w, l, hi, some r, f, st⟩ := StAt.mk' hx hd
theorem StAt.mkN {h : Heap} {x d : Addr} {h0 h1 h2 h3 h4 h5 : Int} {k0 k1 k2 k3 k4 k5 t0 t1 t2 t4 t5 : Tok} {w l hi f st : Int} (hx : h.get? x = some (instObj 98 d))
    (hd : h.get? d = some (dictOf [⟨h0, .str (Str.ofString "way") k0, .int w t0⟩, ⟨h1, .str (Str.ofString "low") k1, .int l t1⟩, ⟨h2, .str (Str.ofString "high") k2, .int hi t2⟩, ⟨h3, .str (Str.ofString "reached") k3, .none⟩, ⟨h4, .str (Str.ofString "far") k4, .int f t4⟩, ⟨h5, .str (Str.ofString "stamp") k5, .int st t5⟩] 6)) :
    StAt h x d ⟨w, l, hi, none, f, st⟩ := StAt.mk' (t3 := 0) hx hd
/-- what is kept when the ledger's objects D alone are turned -/
theorem keepBut_of {s g h : Heap} {L : Addr} {m : Str → Option Value} {D : List Addr} (G : GSub s g D) (F : Fr g L h m) : KeepBut D s h := fun b o hb e => F.keep b o (G b o e hb)
theorem KeepBut.up {s h : Heap} (k : KeepBut [] s h) : Up s h := fun b o e => k b o (by simp) e
theorem Up.but {s h : Heap} {D : List Addr} (k : Up s h) : KeepBut D s h := fun b o _ e => k b o e
theorem KeepBut.mono {s h : Heap} {D D' : List Addr} (k : KeepBut D s h) (hd : ∀ a ∈ D, a ∈ D') : KeepBut D' s h := fun b o hb e => k b o (fun q => hb (hd b q)) e
theorem KeepBut.trans {a b c : Heap} {D : List Addr} (x : KeepBut D a b) (y : KeepBut D b c) : KeepBut D a c := fun p o hp e => y p o hp (x p o hp e)
noncomputable def ReadsP (h : Heap) (v : Value) (d : PyData) : Prop := ∃ as, Reads h v d as
theorem ReadsP.up {h h' : Heap} {v : Value} {d : PyData} (r : ReadsP h v d) (u : Up h h') : ReadsP h' v d := let ⟨as, q⟩ := r; ⟨as, Reads.keeps u q⟩
noncomputable def optP : Option Int → PyData
  | none => .none
  | some r => .int r
noncomputable def stP (σ : St) : PyData := .tuple [.int σ.way, .int σ.low, .int σ.high, optP σ.reached, .int σ.far, .int σ.stamp]
theorem reads_opt {h : Heap} : ∀ (r : Option Int) (t : Tok), Reads h (optV r t) (optP r) []
  | none, _ => .none
  | some r, t => .int r t
theorem reads_st {h : Heap} {a : Addr} {t0 t1 t2 t3 t4 t5 : Tok} {n : Nat} {σ : St} (e : h.get? a = some { cls := .type "tuple", data := .seq #[.int σ.way t0, .int σ.low t1, .int σ.high t2, optV σ.reached t3, .int σ.far t4, .int σ.stamp t5] n }) : ReadsP h (.ref a) (stP σ) :=
  ⟨_, .tuple e rfl rfl (.cons (.int _ _) (.cons (.int _ _) (.cons (.int _ _) (.cons (reads_opt _ _) (.cons (.int _ _) (.cons (.int _ _) .nil))))))⟩
theorem handed_opt : ∀ (r : Option Int) (t : Tok), handedIn (optV r t) = true
  | none, _ => rfl
  | some _, _ => rfl
/-- a new object -/
theorem none_up {s g h : Heap} {L a : Addr} {o : Obj} {r : List (Addr × Obj)} (G : GSub s g []) (N : News g L h ((a, o) :: r)) : s.get? a = none := by
  cases e : s.get? a with
  | none => rfl
  | some o' => have := (N _ (.head _)).2.2; rw [G _ _ e (by simp)] at this; cases this
theorem none_but {s g h : Heap} {L a : Addr} {o : Obj} {D : List Addr} {news : List (Addr × Obj)} (G : GSub s g D) (N : News g L h news) (hm : (a, o) ∈ news) (hd : a ∉ D) : s.get? a = none := by
  cases e : s.get? a with
  | none => rfl
  | some o' => have := (N _ hm).2.2; rw [G _ _ e hd] at this; cases this
theorem ne_of_cls {h : Heap} {a b : Addr} {o o' : Obj} (h1 : h.get? a = some o) (h2 : h.get? b = some o') (hc : o.cls ≠ o'.cls) : a ≠ b := fun e => by
  subst e
  rw [h1] at h2
  cases h2
  exact hc rfl
noncomputable def wayTo (σ : St) (b m : Int) : Int := if b = σ.high ∧ 0 ≤ σ.way then 1 else if b + m = σ.low ∧ σ.way ≤ 0 then -1 else 0
/-- a goal at which the walk stands still -/
structure Halt (p : Prop) : Prop where
  mk :: h : p
theorem haltIt {p : Prop} (h : Halt p) : p := h.1
/-- a goal that no intro opens -/
structure Got (G : Prop) : Prop where
  mk :: h : G
noncomputable def LtTo (r : Nat) (G : Prop) : List (Addr × Obj) → Prop
  | [] => Got G
  | (a, _) :: l => @LT.lt Nat _ a r → LtTo r G l
theorem ltTo {r : Addr} {G : Prop} : ∀ {l : List (Addr × Obj)}, (∀ p ∈ l, p.1 < r) → LtTo r G l → G
  | [], _, h => h.1
  | _ :: _, h, k => ltTo (fun q hq => h q (.tail _ hq)) (k (h _ (.head _)))
noncomputable def NeTo (r : Nat) (G : Prop) : List (Addr × Obj) → Prop
  | [] => Got G
  | (a, _) :: l => @Ne Nat a r → NeTo r G l
theorem offTo {r : Addr} {G : Prop} : ∀ {l : List (Addr × Obj)}, LCg.Off1 r l → NeTo r G l → G
  | [], _, h => h.1
  | _ :: _, h, k => offTo h.2 (k h.1)
theorem news_let {g h : Heap} {L : Addr} {l : List (Addr × Obj)} {G : Prop} (N : News g L h l) (k : let T := l; News g L h T → G) : G := k N
theorem fr_let {g h : Heap} {L : Addr} {m : Str → Option Value} {G : Prop} (F : Fr g L h m) (k : let M := m; Fr g L h M → G) : G := k F
theorem lacksIt {p : Prop} (_h : p) (_k : p → True) : True := trivial
theorem s_let {M : Model} {A : Around} {α : Type} {m : Sem α} {Q : α → Shared → Prop} {E : Value → Shared → Prop} {h : Heap} {n : Nat} {s : Shared} (k : let g := s.gens; let d := s.drawn; let o := s.os; wpAny M A m Q E ⟨h, g, d, n, o⟩) : wpAny M A m Q E ⟨h, s.gens, s.drawn, n, s.os⟩ := k
theorem a_let {M : Model} {A : Around} {env : Env} {α : Type} {m : Sem α} {Q : α → Shared → Prop} {E : Value → Shared → Prop} {s : Shared} (k : let B := A.deeper env; wpAny M B m Q E s) : wpAny M (A.deeper env) m Q E s := k
theorem gentok {M : Model} {A : Around} {α : Type} {m : Sem α} {Q : α → Shared → Prop} {E : Value → Shared → Prop} {h : Heap} {g : Array GenState} {d : Drawn} {o : OsState} {a b : Nat} (H : ∀ n, wpAny M A m Q E ⟨h, g, d, n, o⟩) : wpAny M A m Q E ⟨h, g, d, a + b, o⟩ := H _
end

local macro_rules | `(tactic| walk_at $s:str) => `(tactic| k_extra $s)
local macro_rules | `(tactic| omega) => `(tactic| k_extra "np_omega")
local macro_rules | `(tactic| k_inst) => `(tactic| k_extra "np_inst")
local macro_rules | `(tactic| k_handed) => `(tactic| k_extra "np_handed")
local macro_rules | `(tactic| k_mem) => `(tactic| k_extra "np_mem")
local macro_rules | `(tactic| k_all) => `(tactic| k_extra "np_all")
local macro_rules | `(tactic| k_ne) => `(tactic| k_extra "np_ne")
local macro_rules | `(tactic| k_lt $h) => `(tactic| (refine ltTo $h ?_; clear $h; k_extra "np_lt"))

section
theorem offNpA : True := by w_top off; trivial
theorem wNpA0 : True := by
  k_with_none
  (k_with "np_omega" => (first
      | (with_reducible assumption)
      | omega -splitDisjunctions
      | ((with_reducible show @Ne Nat _ _); with_reducible refine Ne.symm ?_; with_reducible assumption)
      | (refine Nat.le_antisymm ?_ ?_ <;> omega -splitDisjunctions)
      | (refine Int.le_antisymm ?_ ?_ <;> omega -splitDisjunctions)
      | omega +splitDisjunctions))
  (k_with "np_mm" => (first
      | (simp (disch := (first | assumption | exact Int.le_of_lt (by assumption) | exact Int.not_lt.mp (by assumption) | omega)) only [Int.max_eq_right, Int.max_eq_left, Int.min_eq_right, Int.min_eq_left]; done)
      | omega))
  (k_with "np_lt" => (k_dflt (repeat (intro _)); k_dflt (refine Got.mk ?_)))
  (k_with "np_ne" => (first
      | (with_reducible refine Nat.ne_of_lt ?_; with_reducible assumption)
      | (with_reducible refine Nat.ne_of_gt ?_; with_reducible assumption)
      | (with_reducible assumption)
      | (with_reducible refine Ne.symm ?_; with_reducible assumption)
      | (refine neN ?_; (try dsimp only); omega)))
  (k_with "np_mem" => (first
      | ((repeat' (with_reducible first | exact List.Mem.head _ | refine List.Mem.tail _ ?_)); done)
      | (with_reducible assumption)
      | assumption))
  (k_with "ite" => (k_closed; k_dflt (first | refine ite_pos (by decide) ?_ | refine ite_neg (by decide) ?_)))
  (k_with "callWith ref" => (k_here; k_dflt (first | (refine' callWith_K ?k1_q ?k2_q ?_; (case k1_q => k_asm); (case k2_q => k_is); k_whole) | (refine' callWith_K0 ?k1_q ?k2_q ?_; (case k1_q => exact Frag.In.keeps (by k_asm) (Fr.keep (by k_asm))); (case k2_q => k_is); k_whole))))
  (k_with "CompEnd" => (with_reducible refine haltIt ?_))
  (k_with "CompSrc" => (with_reducible refine haltIt ?_))
  (k_with "CompSrcT" => (with_reducible refine haltIt ?_))
  (k_with "np_inst" => (first
      | (refine' InstAt.of_base ?F_q ?h1_q ?h2_q; (case F_q => k_asm); (case h1_q => k_asm); (case h2_q => k_asm))
      | (refine' InstAt.of_mixed ?F_q ?h1_q ?N_q ?h2_q; (case F_q => k_asm); (case h1_q => k_asm); (case N_q => k_asm); (case h2_q => k_mem))))
  (k_with "np_let" => ((try ((with_reducible rename News _ _ _ _ => cN'q); (fail_if_success (have := lacksIt cN'q (by goal_lacks List.cons; exact fun _ => trivial))); refine news_let cN'q ?_; clear cN'q; intro _ cN'q)); (try ((with_reducible rename Fr _ _ _ _ => cF'q); (fail_if_success (have := lacksIt cF'q (by goal_lacks Option.some; exact fun _ => trivial))); refine fr_let cF'q ?_; clear cF'q; intro _ cF'q))))
  (k_with "getItem ref str" => (k_here; (with_reducible show wpAny _ _ (getItem (Value.ref _) (Value.str _ _)) _ _ _); k_dflt (refine kdt_getItem (knd := PySem.strKind _ _) (by k_asm) (by k_mem) (by k_asm) (strKind_is _ _ _ _) (by rfl) ?_)))
  (k_with "execs cons" => (k_here; (try (with_reducible refine gentok ?_; intro _)); walk_at "np_let"; (with_reducible refine wpAny_execs_cons ?_); (try dsimp only); (try k_fold)))
  (k_with "execs nil" => (k_here; with_reducible refine gentok ?_; intro _))
  (k_with "np_handed" => (exact handed_opt _ _))
  (k_with "np_enter" => (case ho => k_dflt k_is); (case hcd => k_dflt k_is); (try (case hr => (first | omega | (dsimp only; omega)))); (case hbind => first | exact BindsTo.of_eq rfl | (refine' binds_K ?bx_q ?b1_q ?b2_q ?b3_q ?b4_q ?b5_q; (case bx_q => assumption); (case b1_q => exact rfl); (case b2_q => k_dflt k_is); (case b3_q => exact rfl); (case b4_q => exact rfl); (case b5_q => exact rfl))); (case hloc => exact locs rfl); (case ha => exact rfl); (case hb => exact rfl); (case hc => exact rfl); (case hd => decide))
  (k_with "np_enterX" => (case ho => k_dflt k_is); (case hcd => k_dflt k_is); (try (case hr => (first | omega | (dsimp only; omega)))); (case hbind => first | exact BindsTo.of_eq rfl | (refine' binds_K ?bx_q ?b1_q ?b2_q ?b3_q ?b4_q ?b5_q; (case bx_q => assumption); (case b1_q => exact rfl); (case b2_q => k_dflt k_is); (case b3_q => exact rfl); (case b4_q => exact rfl); (case b5_q => exact rfl))); (case hkd => exact rfl); (case hnd => decide +kernel); (case ha => exact rfl); (case hb => exact rfl); (case hc => exact rfl))
  trivial

section
variable {w : World} {A : Around} {s : Shared} {h₀ : Heap} {Q E : Value → Shared → Prop} {x d : Addr} {σ : St}
theorem way_to_spec {b m : Int} {tb tm : Tok} (G : Gr w h₀) (hk : Up h₀ s.heap) (hA : A.handled = none) (hd : A.depth < recursionLimit) (hx : StAt s.heap x d σ)
    (ret : ∀ h' tk t, Up s.heap h' → Q (.int (wayTo σ b m) t) {s with heap := h', toks := tk}) : wpAny (model Pg w) A (call (.ref 67) [.ref x, .int b tb, .int m tm]) Q E s := by
  obtain ⟨ah, ad, af, ag, au⟩ := A
  obtain rfl : ah = none := hA
  dsimp only at hd
  have ret' : ∀ k h' tk t, k = wayTo σ b m → Up s.heap h' → Q (.int k t) {s with heap := h', toks := tk} := fun k h' tk t e => e ▸ ret h' tk t
  obtain ⟨q, t, hx, hdx⟩ := hx
  refine' enter (D := []) (binds := [(Str.ofString "self", .ref x), (Str.ofString "begin", .int b tb), (Str.ofString "many", .int m tm)]) G hk (fun _ h => nomatch h) ?ho ?hcd ?hr ?hbind ?hloc ?_ ?ha ?hb ?hc ?hd
  walk_at "np_enter"
  intro g' L' h' mean mg mb F' N' X' T' G' kG'
  have hx' := kG' _ _ hx (by simp)
  have hd' := kG' _ _ hdx (by simp)
  try dsimp only
  k_unmd
  k_fold
  k_steps
  all_goals exact ret' _ _ _ _ (by unfold wayTo; (repeat' split) <;> omega) (up_of kG' (by assumption))

noncomputable def hasB (σ : St) (b m : Int) : Bool := decide (σ.low ≤ b ∧ b + m ≤ σ.high)
theorem has_spec {b m : Int} {tb tm : Tok} (G : Gr w h₀) (hk : Up h₀ s.heap) (hA : A.handled = none) (hd : A.depth < recursionLimit) (hx : StAt s.heap x d σ)
    (ret : ∀ h' tk, Up s.heap h' → Q (.bool (hasB σ b m)) {s with heap := h', toks := tk}) : wpAny (model Pg w) A (call (.ref 74) [.ref x, .int b tb, .int m tm]) Q E s := by
  obtain ⟨ah, ad, af, ag, au⟩ := A
  obtain rfl : ah = none := hA
  dsimp only at hd
  have ret' : ∀ k h' tk, k = hasB σ b m → Up s.heap h' → Q (.bool k) {s with heap := h', toks := tk} := fun k h' tk e => e ▸ ret h' tk
  obtain ⟨q, t, hx, hdx⟩ := hx
  refine' enter (D := []) (binds := [(Str.ofString "self", .ref x), (Str.ofString "begin", .int b tb), (Str.ofString "many", .int m tm)]) G hk (fun _ h => nomatch h) ?ho ?hcd ?hr ?hbind ?hloc ?_ ?ha ?hb ?hc ?hd
  walk_at "np_enter"
  intro g' L' h' mean mg mb F' N' X' T' G' kG'
  have hx' := kG' _ _ hx (by simp)
  have hd' := kG' _ _ hdx (by simp)
  try dsimp only
  k_unmd
  k_fold
  k_steps
  all_goals exact ret' _ _ _ (by rw [Bool.eq_iff_iff]; simp only [hasB, decide_eq_true_eq, Bool.false_eq_true]; omega) (up_of kG' (by assumption))

noncomputable def goS (σ : St) (b m way : Int) : St := ⟨way, b, b + m, if σ.way = 0 then some (if way = 1 then b + m else b) else σ.reached, σ.far, σ.stamp⟩
theorem go_spec {b m way : Int} {tb tm tw : Tok} (G : Gr w h₀) (hk : Up h₀ s.heap) (hA : A.handled = none) (hd : A.depth < recursionLimit) (hx : StAt s.heap x d σ) (hf : h₀.get? d = none)
    (ret : ∀ h' tk, StAt h' x d (goS σ b m way) → KeepBut [d] s.heap h' → Q .none {s with heap := h', toks := tk}) : wpAny (model Pg w) A (call (.ref 81) [.ref x, .int b tb, .int m tm, .int way tw]) Q E s := by
  obtain ⟨ah, ad, af, ag, au⟩ := A
  obtain rfl : ah = none := hA
  dsimp only at hd
  have ret' : ∀ σ' h' tk, σ' = goS σ b m way → StAt h' x d σ' → KeepBut [d] s.heap h' → Q .none {s with heap := h', toks := tk} := fun k h' tk e => e ▸ ret h' tk
  obtain ⟨q, t, hx, hdx⟩ := hx
  have hne : x ≠ d := fun e => by rw [e, hdx] at hx; cases hx
  refine' enter (D := [(d, dictOf (sEs q t σ) 6)]) (binds := [(Str.ofString "self", .ref x), (Str.ofString "begin", .int b tb), (Str.ofString "many", .int m tm), (Str.ofString "way", .int way tw)]) G hk (List.forall_mem_singleton.mpr ⟨hdx, hf⟩) ?ho ?hcd ?hr ?hbind ?hloc ?_ ?ha ?hb ?hc ?hd
  walk_at "np_enter"
  intro g' L' h' mean mg mb F' N' X' T' G' kG'
  have hx' := kG' _ _ hx (by simpa using hne)
  try dsimp only
  k_unmd
  k_fold
  k_steps
  all_goals (rename News _ _ _ _ => kN; rename Fr _ _ _ _ => kF)
  all_goals first
    | exact ret' _ _ _ (by simp [goS, *]) (StAt.mkS (kF.keep _ _ hx') (kN.get (.head _))) (keepBut_of kG' kF)
    | exact ret' _ _ _ (by simp [goS, *]) (StAt.mk' (kF.keep _ _ hx') (kN.get (.head _))) (keepBut_of kG' kF)

/-- other.is_like(stream): does the other (σ) wait where the stream (ρ) waits -/
noncomputable def likeB (σ ρ : St) : Bool := decide ((σ.way = 0 ∨ σ.way = ρ.way) ∧ (if ρ.way = 1 then σ.high = ρ.high else σ.low = ρ.low))
theorem is_like_spec {y e : Addr} {ρ : St} (G : Gr w h₀) (hk : Up h₀ s.heap) (hA : A.handled = none) (hd : A.depth < recursionLimit) (hx : StAt s.heap x d σ) (hy : StAt s.heap y e ρ)
    (ret : ∀ h' tk, Up s.heap h' → Q (.bool (likeB σ ρ)) {s with heap := h', toks := tk}) : wpAny (model Pg w) A (call (.ref 88) [.ref x, .ref y]) Q E s := by
  obtain ⟨ah, ad, af, ag, au⟩ := A
  obtain rfl : ah = none := hA
  dsimp only at hd
  have ret' : ∀ k h' tk, k = likeB σ ρ → Up s.heap h' → Q (.bool k) {s with heap := h', toks := tk} := fun k h' tk e => e ▸ ret h' tk
  obtain ⟨q, t, hx, hdx⟩ := hx
  obtain ⟨q', t', hy, hdy⟩ := hy
  refine' enter (D := []) (binds := [(Str.ofString "self", .ref x), (Str.ofString "other", .ref y)]) G hk (fun _ h => nomatch h) ?ho ?hcd ?hr ?hbind ?hloc ?_ ?ha ?hb ?hc ?hd
  walk_at "np_enter"
  intro g' L' h' mean mg mb F' N' X' T' G' kG'
  have hx' := kG' _ _ hx (by simp)
  have hd' := kG' _ _ hdx (by simp)
  have hy' := kG' _ _ hy (by simp)
  have he' := kG' _ _ hdy (by simp)
  try dsimp only
  k_unmd
  k_fold
  k_steps
  all_goals (rename Fr _ _ _ _ => kF)
  all_goals exact ret' _ _ _ (by clear ret ret'; simp only [List.any_cons, List.any_nil, Bool.or_false, Bool.or_eq_true, beq_iff_eq, Bool.or_eq_false_iff, beq_eq_false_iff_ne, Bool.not_eq_true, Bool.or_eq_false_iff] at *; rw [Bool.eq_iff_iff]; simp only [likeB, decide_eq_true_eq, beq_iff_eq]; grind) (up_of kG' kF)

/-- the tuple that plain makes of a stream -/
noncomputable def stObj (t : Nat → Tok) (σ : St) : Obj := { cls := .type "tuple", data := .seq #[.int σ.way (t 0), .int σ.low (t 1), .int σ.high (t 2), optV σ.reached (t 3), .int σ.far (t 4), .int σ.stamp (t 5)] }
theorem splain_spec (G : Gr w h₀) (hk : Up h₀ s.heap) (hA : A.handled = none) (hd : A.depth < recursionLimit) (hx : StAt s.heap x d σ)
    (ret : ∀ h' tk r t, Up s.heap h' → s.heap.get? r = none → h'.get? r = some (stObj t σ) → Q (.ref r) {s with heap := h', toks := tk}) : wpAny (model Pg w) A (call (.ref 95) [.ref x]) Q E s := by
  obtain ⟨ah, ad, af, ag, au⟩ := A
  obtain rfl : ah = none := hA
  dsimp only at hd
  obtain ⟨q, t, hx, hdx⟩ := hx
  refine' enter (D := []) (binds := [(Str.ofString "self", .ref x)]) G hk (fun _ h => nomatch h) ?ho ?hcd ?hr ?hbind ?hloc ?_ ?ha ?hb ?hc ?hd
  walk_at "np_enter"
  intro g' L' h' mean mg mb F' N' X' T' G' kG'
  have hx' := kG' _ _ hx (by simp)
  have hd' := kG' _ _ hdx (by simp)
  try dsimp only
  k_unmd
  k_fold
  k_steps
  all_goals (rename News _ _ _ _ => kN; rename Fr _ _ _ _ => kF)
  exact ret _ _ _ t (up_of kG' kF) (none_up kG' kN) (kN.get (.head _))

/-- what ahead_of makes of a stream that has gone on: (begin, end) -/
noncomputable def aheadB (σ : St) (r : Int) (_most : Option Int) : Int := if σ.way = 1 then max σ.high r else
  min (min σ.low r) (max 0 (σ.low - σ.far))
noncomputable def aheadE (σ : St) (r : Int) (most : Option Int) : Int := if σ.way = 1 then max (max σ.high r) (match most with | none => σ.high + σ.far | some k => min (σ.high + σ.far) k) else min σ.low r
noncomputable def aheadS (σ : St) (r : Int) (most : Option Int) : St := { σ with reached := some (if σ.way = 1 then aheadE σ r most else aheadB σ r most) }
theorem ahead_of_spec {r : Int} {most : Option Int} {tm : Tok} (G : Gr w h₀) (hk : Up h₀ s.heap) (hA : A.handled = none) (hd : A.depth < recursionLimit) (hx : StAt s.heap x d σ) (hr : σ.reached = some r) (hf : h₀.get? d = none)
    (ret : ∀ h' tk c t1 t2, StAt h' x d (aheadS σ r most) → KeepBut [d] s.heap h' → s.heap.get? c = none → h'.get? c = some { cls := .type "tuple", data := .seq #[.int (aheadB σ r most) t1, .int (aheadE σ r most) t2] } → Q (.ref c) {s with heap := h', toks := tk}) : wpAny (model Pg w) A (call (.ref 109) [.ref x, optV most tm]) Q E s := by
  obtain ⟨ah, ad, af, ag, au⟩ := A
  obtain rfl : ah = none := hA
  dsimp only at hd
  obtain ⟨q, t, hx, hdx⟩ := hx
  have hne : x ≠ d := fun e => by rw [e, hdx] at hx; cases hx
  obtain ⟨wy, lo, hi, re, fa, sta⟩ := σ
  dsimp only at hr
  subst hr
  have ret' : ∀ σ' B E' h' tk c t1 t2, σ' = aheadS ⟨wy, lo, hi, some r, fa, sta⟩ r most → B = aheadB ⟨wy, lo, hi, some r, fa, sta⟩ r most → E' = aheadE ⟨wy, lo, hi, some r, fa, sta⟩ r most → StAt h' x d σ' → KeepBut [d] s.heap h' → s.heap.get? c = none → h'.get? c = some { cls := .type "tuple", data := .seq #[.int B t1, .int E' t2] } → Q (.ref c) {s with heap := h', toks := tk} := by
    intro σ' B E' h' tk c t1 t2 e1 e2 e3; subst e1; subst e2; subst e3; exact ret h' tk c t1 t2
  clear ret
  refine' enter (D := [(d, dictOf (sEs q t _) 6)]) (binds := [(Str.ofString "stream", .ref x), (Str.ofString "most", optV most tm)]) G hk (List.forall_mem_singleton.mpr ⟨hdx, hf⟩) ?ho ?hcd ?hr ?hbind ?hloc ?_ ?ha ?hb ?hc ?hd
  walk_at "np_enter"
  intro g' L' h' mean mg mb F' N' X' T' G' kG'
  have hx' := kG' _ _ hx (by simpa using hne)
  cases most
  all_goals (
    try dsimp only [optV] at F'
    try dsimp only [sEs, optV] at N'
    try dsimp only
    k_unmd
    k_fold
    k_steps)
  all_goals (rename News _ _ _ _ => kN; rename Fr _ _ _ _ => kF; rename d < _ => kl)
  all_goals exact ret' _ _ _ _ _ _ _ _ (by unfold aheadS aheadE aheadB; dsimp only; simp only [St.mk.injEq, Option.some.injEq, true_and, and_true]; (repeat' split) <;> walk_at "np_mm") (by unfold aheadB; dsimp only; (repeat' split) <;> walk_at "np_mm") (by unfold aheadE; dsimp only; (repeat' split) <;> walk_at "np_mm") (StAt.mkS (kF.keep _ _ hx') (kN.get (.tail _ (.head _)))) (keepBut_of kG' kF) (none_but kG' kN (.head _) (by simpa using Nat.ne_of_gt kl)) (kN.get (.head _))
end
end

section
theorem wNpLoop0 : True := by
  k_with_none
  (k_with "np_omega" => (first
      | (with_reducible assumption)
      | omega -splitDisjunctions
      | ((with_reducible show @Ne Nat _ _); with_reducible refine Ne.symm ?_; with_reducible assumption)
      | (refine Nat.le_antisymm ?_ ?_ <;> omega -splitDisjunctions)
      | (refine Int.le_antisymm ?_ ?_ <;> omega -splitDisjunctions)
      | omega +splitDisjunctions))
  (k_with "np_mm" => (first
      | (simp (disch := (first | assumption | exact Int.le_of_lt (by assumption) | exact Int.not_lt.mp (by assumption) | omega)) only [Int.max_eq_right, Int.max_eq_left, Int.min_eq_right, Int.min_eq_left]; done)
      | omega))
  (k_with "np_lt" => (k_dflt (repeat (intro _)); k_dflt (refine Got.mk ?_)))
  (k_with "np_ne" => (first
      | (with_reducible refine Nat.ne_of_lt ?_; with_reducible assumption)
      | (with_reducible refine Nat.ne_of_gt ?_; with_reducible assumption)
      | (with_reducible assumption)
      | (with_reducible refine Ne.symm ?_; with_reducible assumption)
      | (refine neN ?_; (try dsimp only); omega)))
  (k_with "np_mem" => (first
      | ((repeat' (with_reducible first | exact List.Mem.head _ | refine List.Mem.tail _ ?_)); done)
      | (with_reducible assumption)
      | assumption))
  (k_with "ite" => (k_closed; k_dflt (first | refine ite_pos (by decide) ?_ | refine ite_neg (by decide) ?_)))
  (k_with "callWith ref" => (k_here; k_dflt (first | (refine' callWith_K ?k1_q ?k2_q ?_; (case k1_q => k_asm); (case k2_q => k_is); k_whole) | (refine' callWith_K0 ?k1_q ?k2_q ?_; (case k1_q => exact Frag.In.keeps (by k_asm) (Fr.keep (by k_asm))); (case k2_q => k_is); k_whole))))
  (k_with "CompEnd" => (with_reducible refine haltIt ?_))
  (k_with "CompSrc" => (with_reducible refine haltIt ?_))
  (k_with "CompSrcT" => (with_reducible refine haltIt ?_))
  (k_with "np_inst" => (first
      | (refine' InstAt.of_base ?F_q ?h1_q ?h2_q; (case F_q => k_asm); (case h1_q => k_asm); (case h2_q => k_asm))
      | (refine' InstAt.of_mixed ?F_q ?h1_q ?N_q ?h2_q; (case F_q => k_asm); (case h1_q => k_asm); (case N_q => k_asm); (case h2_q => k_mem))))
  (k_with "execs cons" => (k_here; (try (with_reducible refine gentok ?_; intro _)); (with_reducible refine wpAny_execs_cons ?_); (try dsimp only); (try k_fold)))
  (k_with "execs nil" => (k_here; with_reducible refine gentok ?_; intro _))
  (k_with "np_handed" => (exact handed_opt _ _))
  (k_with "np_enter" => (case ho => k_dflt k_is); (case hcd => k_dflt k_is); (try (case hr => (first | omega | (dsimp only; omega)))); (case hbind => first | exact BindsTo.of_eq rfl | (refine' binds_K ?bx_q ?b1_q ?b2_q ?b3_q ?b4_q ?b5_q; (case bx_q => assumption); (case b1_q => exact rfl); (case b2_q => k_dflt k_is); (case b3_q => exact rfl); (case b4_q => exact rfl); (case b5_q => exact rfl))); (case hloc => exact locs rfl); (case ha => exact rfl); (case hb => exact rfl); (case hc => exact rfl); (case hd => decide))
  (k_with "np_enterX" => (case ho => k_dflt k_is); (case hcd => k_dflt k_is); (try (case hr => (first | omega | (dsimp only; omega)))); (case hbind => first | exact BindsTo.of_eq rfl | (refine' binds_K ?bx_q ?b1_q ?b2_q ?b3_q ?b4_q ?b5_q; (case bx_q => assumption); (case b1_q => exact rfl); (case b2_q => k_dflt k_is); (case b3_q => exact rfl); (case b4_q => exact rfl); (case b5_q => exact rfl))); (case hkd => exact rfl); (case hnd => decide +kernel); (case ha => exact rfl); (case hb => exact rfl); (case hc => exact rfl))
  trivial
section
variable {prog : Program} {w : World} {A : Around} {E : Value → Shared → Prop} {s : Shared} {env : Env} {g : Heap} {x : Str} {body : List Stmt} {Q : Flow → Shared → Prop}
theorem unrPost_mono {L I : Addr} {it : Obj} {s₁ : Shared} {R R' : (Str → Option Value) → List (Addr × Obj) → Prop} (h : ∀ m n, R m n → R' m n) {f : Flow} {s₂ : Shared} (u : UnrPost g L s₁ I it R Q f s₂) : UnrPost g L s₁ I it R' Q f s₂ := by
  have e : UnrEnd g L s₁ I it R s₂ → UnrEnd g L s₁ I it R' s₂ := fun ⟨h', tk, m', n', a, b, c, d, r⟩ => ⟨h', tk, m', n', a, b, c, d, h _ _ r⟩
  cases f with
  | ret v => exact u
  | brk => exact u
  | next => exact e u
  | cont => exact e u
/-- a loop over a list of the ledger's, by what holds (P) of what is left, the frame and the ledger -/
theorem loop_list {α : Type} {f : α → Value} {l : List α} (P : List α → (Str → Option Value) → List (Addr × Obj) → Prop) {ax : Addr} {lo : Obj} {n : Nat} {m₀ : Str → Option Value} {news : List (Addr × Obj)} {L : Addr} (hL : env.locals = L)
    (hh : A.handled = none) (F : Fr g L s.heap m₀) (N : News g L s.heap news) (hm : (ax, lo) ∈ news) (hc : lo.cls = .type "list") (hd : lo.data = .seq (l.map f).toArray n)
    (h0 : P l m₀ news)
    (nil : ∀ m n h tk, P [] m n → Fr g L h m → News g L h n → Q .next { s with heap := h, toks := tk })
    (cons : ∀ a r m n I it h tk, (∀ p ∈ news, p.1 < I) → P (a :: r) m n → it.cls = .type "list_iterator" → Fr g L h (fun y => if y = x then some (f a) else m y) → News g L h ((I, it) :: n) →
      wpAny (model prog w) A (execs body env) (UnrPost g L { s with heap := h, toks := tk } I it (fun m' n' => (ax, lo) ∈ n' ∧ P r m' n') Q) E { s with heap := h, toks := tk }) :
    wpAny (model prog w) A (pyIter (.ref ax)) (fun it s₂ => LoopAtV prog w A g env x body Q E it s₂) E s := by
  subst hL
  refine iter_listUnr hh F N hm hc hd fun I hI => ?_
  have all : ∀ (r : List α) (m : Str → Option Value) (n : List (Addr × Obj)), P r m n → ListRest prog w A E g env x body Q s I (ax, lo) (r.map f) m n := by
    intro r
    induction r with
    | nil => exact fun m n p => ListRest.zero fun h tk F' N' => nil m n h tk p F' N'
    | cons a r ih =>
      exact fun m n p => ListRest.succ fun it h tk hi F' N' => wpAny_mono (cons a r m n I it h tk hI p hi F' N') (fun fl s₂ u => unrPost_mono (fun m' n' q => ⟨q.1, ih m' n' q.2⟩) u) fun _ _ e => e
  exact all l m₀ news h0
theorem Fr.congr {h : Heap} {L : Addr} {m m' : Str → Option Value} (F : Fr g L h m) (e : ∀ y, m y = m' y) : Fr g L h m' := by
  rw [← funext e]; exact F
theorem keepBut_news {s g h : Heap} {L : Addr} {m : Str → Option Value} {D news : List (Addr × Obj)} {M : List Addr} (G : GSub s g (D.map (·.1))) (F : Fr g L h m) (N : News g L h news) (hD : ∀ q ∈ D, s.get? q.1 = some q.2) (hs : ∀ q ∈ D, q.1 ∈ M ∨ q ∈ news) : KeepBut M s h := fun b o hb e => by
  by_cases hm : b ∈ D.map (·.1)
  · obtain ⟨q, hq, rfl⟩ := List.mem_map.mp hm
    have := hD q hq
    rw [this] at e
    cases e
    exact (N q ((hs q hq).resolve_left hb)).1
  · exact F.keep b o (G b o e hm)
/-- a callee's new object, on the ledger -/
theorem news_add {g h h' : Heap} {L r : Addr} {m : Str → Option Value} {o : Obj} {news : List (Addr × Obj)} (F : Fr g L h m) (N : News g L h news) (U : Up h h') (hr : h.get? r = none) (ho : h'.get? r = some o) : News g L h' ((r, o) :: news) := fun p hp => by
  rcases List.mem_cons.mp hp with rfl | hp
  · refine ⟨ho, fun e => ?_, ?_⟩
    · obtain ⟨oL, _, _, hL, _⟩ := F.ns
      have e' : r = L := e
      rw [e', hL] at hr
      cases hr
    · cases q : g.get? r with
      | none => rfl
      | some o' => have := F.keep _ _ q; rw [hr] at this; cases this
  · exact ⟨U _ _ (N p hp).1, (N p hp).2⟩
noncomputable def NewAt (r : Addr) (news : List (Addr × Obj)) : Prop := ∀ p ∈ news, @Ne Nat p.1 r
theorem news_ne {g h : Heap} {L r : Addr} {news : List (Addr × Obj)} (N : News g L h news) (hr : h.get? r = none) : NewAt r news := fun p hp e => by
  have e' : p.1 = r := e
  have := (N p hp).1
  rw [e', hr] at this
  cases this
/-- a word the walk leaves as it is -/
noncomputable def Hold (p : Prop) : Prop := p
theorem Hold.mk {p : Prop} (h : p) : Hold p := h
theorem off1 {a y : Str} (h : [a].contains y = false) : y ≠ a := by simpa using h
theorem off2 {a b y : Str} (h : [a, b].contains y = false) : y ≠ a ∧ y ≠ b := by simpa using h
theorem off3 {a b c y : Str} (h : [a, b, c].contains y = false) : y ≠ a ∧ y ≠ b ∧ y ≠ c := by simpa using h
/-- the frame behind turns that store the names given -/
theorem fr_stored {h : Heap} {L : Addr} {stored : List Str} {m m₀ : Str → Option Value} (F : Fr g L h m) (hm : ∀ y, stored.contains y = false → m y = m₀ y) : Fr g L h (fun y => if stored.contains y = true then m y else m₀ y) :=
  Fr.congr F fun y => by
    cases e : stored.contains y with
    | true => simp
    | false => simpa using hm y e
theorem fr_storedX {h : Heap} {L : Addr} {stored : List Str} {m m₀ : Str → Option Value} {x : Str} {v : Option Value} (F : Fr g L h (fun y => if y = x then v else m y)) (hm : ∀ y, stored.contains y = false → m y = m₀ y) (_hx : stored.contains x = true) :
    Fr g L h (fun y => if y = x then v else if stored.contains y = true then m y else m₀ y) :=
  Fr.congr F fun y => by
    by_cases hy : y = x
    · simp [hy]
    · simp only [if_neg hy]
      cases e : stored.contains y with
      | true => simp
      | false => simpa using hm y e
theorem fr_acc {h : Heap} {L : Addr} {m m₀ : Str → Option Value} {x c : Str} {v : Option Value} {u : Value} (F : Fr g L h (fun y => if y = x then v else m y)) (hc : m c = some u) (hm : ∀ y, [x, c].contains y = false → m y = m₀ y) :
    Fr g L h (fun y => if y = x then v else if y = c then some u else m₀ y) :=
  Fr.congr F fun y => by
    by_cases hy : y = x
    · simp [hy]
    · by_cases hz : y = c
      · simp only [if_neg hy, hz, hc, if_true]
      · simp only [if_neg hy, if_neg hz]
        exact hm y (by simp [hy, hz])
theorem fr_acc0 {h : Heap} {L : Addr} {m m₀ : Str → Option Value} {x c : Str} {u : Value} (F : Fr g L h m) (hc : m c = some u) (hm : ∀ y, [x, c].contains y = false → m y = m₀ y) :
    Fr g L h (fun y => if y = c then some u else if y = x then m y else m₀ y) :=
  Fr.congr F fun y => by
    by_cases hz : y = c
    · simp only [hz, hc, if_true]
    · by_cases hy : y = x
      · simp only [if_neg hz, if_pos hy]
      · simp only [if_neg hy, if_neg hz]
        exact hm y (by simp [hy, hz])
end

section
open LCg LCt
variable {prog : Program} {w : World} {A : Around} {E : Value → Shared → Prop} {s : Shared} {env : Env} {g : Heap} {L : Addr} {m : Str → Option Value} {elt ct : Expr} {x : Str} {scope : Scope} {cl : List (Str × Addr)} {S : List (Addr × Obj) → Prop} {Fin : List Value → List (Addr × Obj) → Prop}
/-- the turns of a comprehension without a test, by what holds (J) of what is left, what is built, the ledger -/
theorem comp_rest {α : Type} {f : α → Value} {l₀ : List α} (J : List α → List Value → List (Addr × Obj) → Prop)
    (turn : ∀ a r ys n I oI C oC D m₂ h tk (E' : Value → Shared → Prop), J (a :: r) ys n → NsObj oC m₂ → m₂ x = some (f a) → Fr g L h m → News g L h ((I, oI) :: (C, oC) :: (D, lst ys) :: n) → Off3 I C D n → ((@Ne Nat I C) ∧ (@Ne Nat I D) ∧ (@Ne Nat C D)) →
      wpAny (model prog w) A (eval elt (compEnvC scope cl C env)) (CompEnd g L m { s with heap := h, toks := tk } I oI C oC D (lst ys) S (fun y n' => J r (ys ++ [y]) n')) E' { s with heap := h, toks := tk })
    (fin : ∀ ys n, J [] ys n → Fin ys n) {news : List (Addr × Obj)} (h0 : J l₀ [] news) :
    CompRest prog w A g L m env elt x scope cl s S (fun i v => (l₀.map f).toArray[i]? = some v) Fin (l₀.map f).toArray.size 0 [] news := by
  have all : ∀ (r : List α) (i : Nat) (ys : List Value) (n : List (Addr × Obj)), l₀.drop i = r → J r ys n → CompRest prog w A g L m env elt x scope cl s S (fun i v => (l₀.map f).toArray[i]? = some v) Fin r.length i ys n := by
    intro r
    induction r with
    | nil => exact fun i ys n _ j => CompRest.zero (fin ys n j)
    | cons a r ih =>
      intro i ys n hr j
      refine CompRest.succ fun v I oI C oC D m₂ h tk E' hv hC hx F N off ne => ?_
      have ha : l₀[i]? = some a := by
        have := congrArg List.head? hr
        rwa [List.head?_drop, List.head?_cons] at this
      have hva : v = f a := by
        simp only [List.getElem?_toArray, List.getElem?_map, ha, Option.map_some, Option.some.injEq] at hv
        exact hv.symm
      subst hva
      have hr' : l₀.drop (i + 1) = r := by rw [← List.drop_drop, hr, List.drop_succ_cons, List.drop_zero]
      refine wpAny_mono (turn a r ys n I oI C oC D m₂ h tk E' j hC hx F N off ne) (fun y s₂ c => ?_) fun _ _ e => e
      obtain ⟨h', tk', n', e, F', N', o', S', q⟩ := c
      exact ⟨h', tk', n', e, F', N', o', S', ih (i + 1) _ _ hr' q⟩
  have := all l₀ 0 [] news rfl h0
  simpa using this
/-- the same with one test -/
theorem comp_restT {α : Type} {f : α → Value} {l₀ : List α} (J : List α → List Value → List (Addr × Obj) → Prop)
    (turn : ∀ a r ys n I oI C oC D m₂ h tk (E' : Value → Shared → Prop), J (a :: r) ys n → NsObj oC m₂ → m₂ x = some (f a) → Fr g L h m → News g L h ((I, oI) :: (C, oC) :: (D, lst ys) :: n) → Off3 I C D n → ((@Ne Nat I C) ∧ (@Ne Nat I D) ∧ (@Ne Nat C D)) →
      wpAny (model prog w) A (isTrue ct (compEnvC scope cl C env) (eval ct (compEnvC scope cl C env))) (fun ok s' => if ok = true then
        wpAny (model prog w) A (eval elt (compEnvC scope cl C env)) (CompEnd g L m { s with heap := h, toks := tk } I oI C oC D (lst ys) S (fun y n' => J r (ys ++ [y]) n')) E' s'
        else CompEnd g L m { s with heap := h, toks := tk } I oI C oC D (lst ys) S (fun _ n' => J r ys n') Value.none s') E' { s with heap := h, toks := tk })
    (fin : ∀ ys n, J [] ys n → Fin ys n) {news : List (Addr × Obj)} (h0 : J l₀ [] news) :
    CompRestT prog w A g L m env ct elt x scope cl s S (fun i v => (l₀.map f).toArray[i]? = some v) Fin (l₀.map f).toArray.size 0 [] news := by
  have all : ∀ (r : List α) (i : Nat) (ys : List Value) (n : List (Addr × Obj)), l₀.drop i = r → J r ys n → CompRestT prog w A g L m env ct elt x scope cl s S (fun i v => (l₀.map f).toArray[i]? = some v) Fin r.length i ys n := by
    intro r
    induction r with
    | nil => exact fun i ys n _ j => CompRestT.zero (fin ys n j)
    | cons a r ih =>
      intro i ys n hr j
      refine CompRestT.succ fun v I oI C oC D m₂ h tk E' hv hC hx F N off ne => ?_
      have ha : l₀[i]? = some a := by
        have := congrArg List.head? hr
        rwa [List.head?_drop, List.head?_cons] at this
      have hva : v = f a := by
        simp only [List.getElem?_toArray, List.getElem?_map, ha, Option.map_some, Option.some.injEq] at hv
        exact hv.symm
      subst hva
      have hr' : l₀.drop (i + 1) = r := by rw [← List.drop_drop, hr, List.drop_succ_cons, List.drop_zero]
      refine wpAny_mono (turn a r ys n I oI C oC D m₂ h tk E' j hC hx F N off ne) (fun ok s' c => ?_) fun _ _ e => e
      cases ok with
      | true =>
        simp only [if_true] at c ⊢
        refine wpAny_mono c (fun y s₂ c => ?_) fun _ _ e => e
        obtain ⟨h', tk', n', e, F', N', o', S', q⟩ := c
        exact ⟨h', tk', n', e, F', N', o', S', ih (i + 1) _ _ hr' q⟩
      | false =>
        simp only [Bool.false_eq_true, if_false] at c ⊢
        obtain ⟨h', tk', n', e, F', N', o', S', q⟩ := c
        exact ⟨h', tk', n', e, F', N', o', S', ih (i + 1) _ _ hr' q⟩
  have := all l₀ 0 [] news rfl h0
  simpa using this
end
end

section
theorem offNpA2 : True := by w_top off; trivial
theorem wNpA20 : True := by
  k_with_none
  (k_with "np_omega" => (first
      | (with_reducible assumption)
      | omega -splitDisjunctions
      | ((with_reducible show @Ne Nat _ _); with_reducible refine Ne.symm ?_; with_reducible assumption)
      | (refine Nat.le_antisymm ?_ ?_ <;> omega -splitDisjunctions)
      | (refine Int.le_antisymm ?_ ?_ <;> omega -splitDisjunctions)
      | omega +splitDisjunctions))
  (k_with "np_mm" => (first
      | (simp (disch := (first | assumption | exact Int.le_of_lt (by assumption) | exact Int.not_lt.mp (by assumption) | omega)) only [Int.max_eq_right, Int.max_eq_left, Int.min_eq_right, Int.min_eq_left]; done)
      | omega))
  (k_with "np_lt" => (k_dflt (repeat (intro _)); k_dflt (refine Got.mk ?_)))
  (k_with "np_ne" => (first
      | (with_reducible refine Nat.ne_of_lt ?_; with_reducible assumption)
      | (with_reducible refine Nat.ne_of_gt ?_; with_reducible assumption)
      | (with_reducible assumption)
      | (with_reducible refine Ne.symm ?_; with_reducible assumption)
      | (refine neN ?_; (try dsimp only); omega)))
  (k_with "np_mem" => (first
      | ((repeat' (with_reducible first | exact List.Mem.head _ | refine List.Mem.tail _ ?_)); done)
      | (with_reducible assumption)
      | assumption))
  (k_with "ite" => (k_closed; k_dflt (first | refine ite_pos (by decide) ?_ | refine ite_neg (by decide) ?_)))
  (k_with "callWith ref" => (k_here; k_dflt (first | (refine' callWith_K ?k1_q ?k2_q ?_; (case k1_q => k_asm); (case k2_q => k_is); k_whole) | (refine' callWith_K0 ?k1_q ?k2_q ?_; (case k1_q => exact Frag.In.keeps (by k_asm) (Fr.keep (by k_asm))); (case k2_q => k_is); k_whole))))
  (k_with "CompEnd" => (with_reducible refine haltIt ?_))
  (k_with "CompSrc" => (with_reducible refine haltIt ?_))
  (k_with "CompSrcT" => (with_reducible refine haltIt ?_))
  (k_with "np_inst" => (first
      | (refine' InstAt.of_base ?F_q ?h1_q ?h2_q; (case F_q => k_asm); (case h1_q => k_asm); (case h2_q => k_asm))
      | (refine' InstAt.of_mixed ?F_q ?h1_q ?N_q ?h2_q; (case F_q => k_asm); (case h1_q => k_asm); (case N_q => k_asm); (case h2_q => k_mem))))
  (k_with "execs cons" => (k_here; (try (with_reducible refine gentok ?_; intro _)); (with_reducible refine wpAny_execs_cons ?_); (try dsimp only); (try k_fold)))
  (k_with "execs nil" => (k_here; with_reducible refine gentok ?_; intro _))
  (k_with "np_handed" => (exact handed_opt _ _))
  (k_with "np_enter" => (case ho => k_dflt k_is); (case hcd => k_dflt k_is); (try (case hr => (first | omega | (dsimp only; omega)))); (case hbind => first | exact BindsTo.of_eq rfl | (refine' binds_K ?bx_q ?b1_q ?b2_q ?b3_q ?b4_q ?b5_q; (case bx_q => assumption); (case b1_q => exact rfl); (case b2_q => k_dflt k_is); (case b3_q => exact rfl); (case b4_q => exact rfl); (case b5_q => exact rfl))); (case hloc => exact locs rfl); (case ha => exact rfl); (case hb => exact rfl); (case hc => exact rfl); (case hd => decide))
  (k_with "np_enterX" => (case ho => k_dflt k_is); (case hcd => k_dflt k_is); (try (case hr => (first | omega | (dsimp only; omega)))); (case hbind => first | exact BindsTo.of_eq rfl | (refine' binds_K ?bx_q ?b1_q ?b2_q ?b3_q ?b4_q ?b5_q; (case bx_q => assumption); (case b1_q => exact rfl); (case b2_q => k_dflt k_is); (case b3_q => exact rfl); (case b4_q => exact rfl); (case b5_q => exact rfl))); (case hkd => exact rfl); (case hnd => decide +kernel); (case ha => exact rfl); (case hb => exact rfl); (case hc => exact rfl))
  trivial


theorem wNpA21 : True := by
  (k_with "pyIter ref" => (with_reducible refine haltIt ?_))
  (k_with "call ref" => (k_here; (with_reducible show wpAny _ _ (call (Value.ref 67) _) _ _ _); (with_reducible rename Fr _ _ _ _ => cF'q); (with_reducible rename News _ _ _ _ => cN'q); refine' way_to_spec ?G_q ?k_q ?a_q ?d_q ?x_q ?_; (case G_q => k_asm); (case k_q => exact Fr.keep cF'q); (case a_q => exact rfl); (case d_q => (simp only [depth_under_make, depth_in1, depth_deeper]; omega)); (case x_q => exact StAt.up (by assumption) (Fr.keep cF'q)); k_whole; intro _ _ _ U'q; (have F'q := Fr.keeps cF'q U'q); (have N'q := News.grown cN'q U'q); (clear cF'q cN'q U'q); (try dsimp only)))
  trivial
section
variable {w : World} {A : Around} {s : Shared} {h₀ : Heap} {Q E : Value → Shared → Prop} {x d : Addr} {σ : St}
theorem new_spec {b m fa sta : Int} {tb tm tf ts : Tok} (G : Gr w h₀) (hk : Up h₀ s.heap) (hA : A.handled = none) (hd : A.depth + 1 < recursionLimit)
    (ret : ∀ h' tk x d, Up s.heap h' → s.heap.get? x = none → s.heap.get? d = none → StAt h' x d ⟨0, b, b + m, none, fa, sta⟩ → Q (.ref x) {s with heap := h', toks := tk}) : wpAny (model Pg w) A (call (.ref 98) [.int b tb, .int m tm, .int fa tf, .int sta ts]) Q E s := by
  refine wpAny_call (make_code (fI := 60) G hk ?_ ?_ ?_ fun x d h' ex ed hu hx hdx => ?_)
  · k_dflt k_is
  · k_dflt k_is
  · k_dflt k_is
  have hne : x ≠ d := by omega
  have hxn : s.heap.get? x = none := Heap.get?_none_of_le (by omega)
  have hdn : s.heap.get? d = none := Heap.get?_none_of_le (by omega)
  refine' enter_code (D := [(d, dictOf [] 0)]) (h₀ := s.heap) (binds := [(Str.ofString "self", .ref x), (Str.ofString "begin", .int b tb), (Str.ofString "many", .int m tm), (Str.ofString "far", .int fa tf), (Str.ofString "stamp", .int sta ts)]) ⟨G.X.keeps hk, let ⟨a, b, c, T⟩ := G.T; ⟨a, b, c, T.keeps hk⟩⟩ hu (List.forall_mem_singleton.mpr ⟨hdx, hdn⟩) ?ho ?hcd ?hr ?hbind ?hloc ?_ ?ha ?hb ?hc ?hd
  case hr => exact (by simp only [depth_under_make]; omega)
  walk_at "np_enter"
  intro g' L' h'' mean mg mb F' N' X' T' G' kG'
  have hx' := kG' _ _ hx (by simpa using hne)
  try dsimp only
  k_unmd
  k_fold
  k_steps
  rename News _ _ _ _ => kN; rename Fr _ _ _ _ => kF
  refine ⟨rfl, ret _ _ x d (fun b o e => kF.keep _ _ (kG' _ _ (hu _ _ e) ?_)) hxn hdn (StAt.mkN (kF.keep _ _ hx') (kN.get (.head _)))⟩
  intro hb
  rw [List.map_singleton, List.mem_singleton] at hb
  rw [hb, hdn] at e
  cases e

/-- a Readahead's own numbers -/
structure Sc where
  many : Int
  least : Int
  greatest : Int
  stamp : Int
  hits : Int
  misses : Int
  asked : Int
noncomputable def rEs (q : Nat → Int × Tok) (t : Nat → Tok) (S : Sc) (SL : Addr) : List DictEntry := [⟨(q 0).1, .str (Str.ofString "many") (q 0).2, .int S.many (t 0)⟩, ⟨(q 1).1, .str (Str.ofString "least") (q 1).2, .int S.least (t 1)⟩, ⟨(q 2).1, .str (Str.ofString "greatest") (q 2).2, .int S.greatest (t 2)⟩,
  ⟨(q 3).1, .str (Str.ofString "streams") (q 3).2, .ref SL⟩, ⟨(q 4).1, .str (Str.ofString "stamp") (q 4).2, .int S.stamp (t 4)⟩, ⟨(q 5).1, .str (Str.ofString "hits") (q 5).2, .int S.hits (t 5)⟩, ⟨(q 6).1, .str (Str.ofString "misses") (q 6).2, .int S.misses (t 6)⟩, ⟨(q 7).1, .str (Str.ofString "asked") (q 7).2, .int S.asked (t 7)⟩]
noncomputable def RAt (h : Heap) (R dR : Addr) (S : Sc) (SL : Addr) : Prop := ∃ q t, h.get? R = some (instObj 180 dR) ∧ h.get? dR = some (dictOf (rEs q t S SL) 8)
theorem RAt.mk' {h : Heap} {x d : Addr} {h0 h1 h2 h3 h4 h5 h6 h7 : Int} {k0 k1 k2 k3 k4 k5 k6 k7 t0 t1 t2 t4 t5 t6 t7 : Tok} {a b c e f g i : Int} {SL : Addr} (hx : h.get? x = some (instObj 180 d))
    (hd : h.get? d = some (dictOf [⟨h0, .str (Str.ofString "many") k0, .int a t0⟩, ⟨h1, .str (Str.ofString "least") k1, .int b t1⟩, ⟨h2, .str (Str.ofString "greatest") k2, .int c t2⟩, ⟨h3, .str (Str.ofString "streams") k3, .ref SL⟩, ⟨h4, .str (Str.ofString "stamp") k4, .int e t4⟩, ⟨h5, .str (Str.ofString "hits") k5, .int f t5⟩, ⟨h6, .str (Str.ofString "misses") k6, .int g t6⟩, ⟨h7, .str (Str.ofString "asked") k7, .int i t7⟩] 8)) :
    RAt h x d ⟨a, b, c, e, f, g, i⟩ SL :=
  ⟨fun i => match i with | 0 => (h0, k0) | 1 => (h1, k1) | 2 => (h2, k2) | 3 => (h3, k3) | 4 => (h4, k4) | 5 => (h5, k5) | 6 => (h6, k6) | _ => (h7, k7), fun i => match i with | 0 => t0 | 1 => t1 | 2 => t2 | 4 => t4 | 5 => t5 | 6 => t6 | _ => t7, hx, hd⟩
theorem RAt.up {h h' : Heap} {x d : Addr} {S : Sc} {SL : Addr} (r : RAt h x d S SL) (u : Up h h') : RAt h' x d S SL := let ⟨q, t, a, b⟩ := r; ⟨q, t, u _ _ a, u _ _ b⟩

/-- a stream as it lies: the object, its dict, its data -/
noncomputable abbrev Ent := Addr × Addr × St
noncomputable def refsE (es : List Ent) : List Value := es.map fun e => .ref e.1
noncomputable def EsAt (h : Heap) (es : List Ent) : Prop := ∀ e ∈ es, StAt h e.1 e.2.1 e.2.2
theorem EsAt.up {h h' : Heap} {es : List Ent} (r : EsAt h es) (u : Up h h') : EsAt h' es := fun e he => (r e he).up u
noncomputable def findE (es : List Ent) (b m : Int) : Option Ent := es.find? fun e => wayTo e.2.2 b m ≠ 0
noncomputable def foundObj (o : Option Ent) (b m : Int) (t : Tok) : Obj := match o with
  | some e => { cls := .type "tuple", data := .seq #[.ref e.1, .int (wayTo e.2.2 b m) t] }
  | none => { cls := .type "tuple", data := .seq #[.none, .int 0 t] }

noncomputable def lookM (l : List (Str × Value)) : Str → Option Value := fun y => List.lookup y l.reverse
/-- between two turns: the ledger stands (n₀), the frame but for the stored names, and a word of what is left -/
noncomputable def RoP {α : Type} (n₀ : List (Addr × Obj)) (stored : List Str) (m₀ : Str → Option Value) (W : List α → Prop) (r : List α) (m' : Str → Option Value) (n' : List (Addr × Obj)) : Prop := n' = n₀ ∧ (∀ y, stored.contains y = false → m' y = m₀ y) ∧ W r
theorem found_spec {R dR SL : Addr} {S : Sc} {es : List Ent} {b m : Int} {tb tm : Tok} {nl : Nat} (G : Gr w h₀) (hk : Up h₀ s.heap) (hA : A.handled = none) (hd : A.depth + 1 < recursionLimit) (hR : RAt s.heap R dR S SL)
    (hL : s.heap.get? SL = some (listOf (refsE es).toArray nl)) (hLf : h₀.get? SL = none) (hE : EsAt s.heap es)
    (ret : ∀ h' tk c t, Up s.heap h' → s.heap.get? c = none → h'.get? c = some (foundObj (findE es b m) b m t) → Q (.ref c) {s with heap := h', toks := tk}) : wpAny (model Pg w) A (call (.ref 130) [.ref R, .int b tb, .int m tm]) Q E s := by
  obtain ⟨ah, ad, af, ag, au⟩ := A
  obtain rfl : ah = none := hA
  dsimp only at hd
  obtain ⟨q, t, hR, hdR⟩ := hR
  have hn1 : R ≠ SL := ne_of_cls hR hL (by simp)
  have hn2 : dR ≠ SL := ne_of_cls hdR hL (by simp)
  refine' enter (D := [(SL, listOf (refsE es).toArray nl)]) (binds := [(Str.ofString "self", .ref R), (Str.ofString "begin", .int b tb), (Str.ofString "many", .int m tm)]) G hk (List.forall_mem_singleton.mpr ⟨hL, hLf⟩) ?ho ?hcd ?hr ?hbind ?hloc ?_ ?ha ?hb ?hc ?hd
  walk_at "np_enter"
  intro g' L' h' mean mg mb F' N' X' T' G' kG'
  have hR' := kG' _ _ hR (by simpa using hn1)
  have hdR' := kG' _ _ hdR (by simpa using hn2)
  try dsimp only
  k_unmd
  k_fold
  k_steps
  rename Fr _ _ _ _ => kF; rename News _ _ _ _ => kN
  have hEg : EsAt g' es := fun e he => by
    obtain ⟨q, t, a, b⟩ := hE e he
    exact ⟨q, t, kG' _ _ a (by simpa using ne_of_cls a hL (by simp)), kG' _ _ b (by simpa using ne_of_cls b hL (by simp))⟩
  refine Halt.mk ?_
  refine loop_list (α := Ent) (f := fun e => .ref e.1) (l := es) (RoP [(SL, listOf (refsE es).toArray nl)] [Str.ofString "stream", Str.ofString "way"] (fun y => List.lookup y [(Str.ofString "self", Value.ref R), (Str.ofString "begin", Value.int b tb), (Str.ofString "many", Value.int m tm)].reverse) (fun r => findE es b m = findE r b m ∧ ∀ e ∈ r, e ∈ es))
    (L := L') rfl rfl kF kN (.head _) rfl rfl ⟨rfl, fun _ _ => rfl, rfl, fun _ h => h⟩ ?nil ?cons
  case nil =>
    clear kF kN
    rintro m' n' h' tk' ⟨rfl, hm, hf, -⟩ F' N'
    replace F' := fr_stored (stored := [Str.ofString "stream", Str.ofString "way"]) F' hm
    try dsimp only
    k_unmd
    try k_fold
    k_steps
    rename Fr _ _ _ _ => kF; rename News _ _ _ _ => kN
    refine ret _ _ _ _ (up_of_news kG' kF kN (List.forall_mem_singleton.mpr hL) ?_) (none_but kG' kN (.head _) ?_) (by rw [hf]; exact kN.get (.head _))
    · exact List.forall_mem_singleton.mpr (.tail _ (.head _))
    · simpa using ne_of_cls (kN.get (.head _)) (kN.get (.tail _ (.head _))) (by simp)
  case cons =>
    clear kF kN
    rintro ⟨x, d, σ⟩ r m' n' I it h' tk' hI ⟨rfl, hm, hf, hr⟩ hit F' N'
    have hst : StAt g' x d σ := hEg _ (hr _ (.head _))
    obtain ⟨q', t', hx', hd'⟩ := id hst
    replace F' := fr_storedX (stored := [Str.ofString "stream", Str.ofString "way"]) F' hm rfl
    k_unmd
    k_fold
    k_steps
    · rename Fr _ _ _ _ => kF; rename News _ _ _ _ => kN
      rename wayTo σ b m ≠ 0 => hw
      have hf' : findE es b m = some (x, d, σ) := by rw [hf]; exact List.find?_cons_of_pos (by simpa using hw)
      refine ret _ _ _ _ (up_of_news kG' kF kN (List.forall_mem_singleton.mpr hL) ?_) (none_but kG' kN (.head _) ?_) (by rw [hf']; exact kN.get (.head _))
      · exact List.forall_mem_singleton.mpr (by k_mem)
      · simpa using ne_of_cls (kN.get (.head _)) (kN.get (by k_mem : (SL, listOf (refsE es).toArray nl) ∈ _)) (by simp)
    · rename wayTo σ b m = 0 => hw
      refine ⟨rfl, fun y hy => ?_, ?_, fun e he => hr e (.tail _ he)⟩
      · obtain ⟨h1, h2⟩ := off2 hy
        dsimp only
        rw [if_neg h2, if_neg h1, if_neg (by rw [hy]; exact Bool.false_ne_true)]
      · rw [hf]; exact List.find?_cons_of_neg (by simpa using hw)
end
end

section
theorem offNpB : True := by w_top off; trivial
theorem wNpB0 : True := by
  k_with_none
  (k_with "np_omega" => (first
      | (with_reducible assumption)
      | omega -splitDisjunctions
      | ((with_reducible show @Ne Nat _ _); with_reducible refine Ne.symm ?_; with_reducible assumption)
      | (refine Nat.le_antisymm ?_ ?_ <;> omega -splitDisjunctions)
      | (refine Int.le_antisymm ?_ ?_ <;> omega -splitDisjunctions)
      | omega +splitDisjunctions))
  (k_with "np_mm" => (first
      | (simp (disch := (first | assumption | exact Int.le_of_lt (by assumption) | exact Int.not_lt.mp (by assumption) | omega)) only [Int.max_eq_right, Int.max_eq_left, Int.min_eq_right, Int.min_eq_left]; done)
      | omega))
  (k_with "np_lt" => (k_dflt (repeat (intro _)); k_dflt (refine Got.mk ?_)))
  (k_with "np_ne" => (first
      | (with_reducible refine Nat.ne_of_lt ?_; with_reducible assumption)
      | (with_reducible refine Nat.ne_of_gt ?_; with_reducible assumption)
      | (with_reducible assumption)
      | (with_reducible refine Ne.symm ?_; with_reducible assumption)
      | (refine neN ?_; (try dsimp only); omega)))
  (k_with "np_mem" => (first
      | ((repeat' (with_reducible first | exact List.Mem.head _ | refine List.Mem.tail _ ?_)); done)
      | (with_reducible assumption)
      | assumption))
  (k_with "ite" => (k_closed; k_dflt (first | refine ite_pos (by decide) ?_ | refine ite_neg (by decide) ?_)))
  (k_with "callWith ref" => (k_here; k_dflt (first | (refine' callWith_K ?k1_q ?k2_q ?_; (case k1_q => k_asm); (case k2_q => k_is); k_whole) | (refine' callWith_K0 ?k1_q ?k2_q ?_; (case k1_q => exact Frag.In.keeps (by k_asm) (Fr.keep (by k_asm))); (case k2_q => k_is); k_whole))))
  (k_with "CompEnd" => (with_reducible refine haltIt ?_))
  (k_with "CompSrc" => (with_reducible refine haltIt ?_))
  (k_with "CompSrcT" => (with_reducible refine haltIt ?_))
  (k_with "np_inst" => (first
      | (refine' InstAt.of_base ?F_q ?h1_q ?h2_q; (case F_q => k_asm); (case h1_q => k_asm); (case h2_q => k_asm))
      | (refine' InstAt.of_mixed ?F_q ?h1_q ?N_q ?h2_q; (case F_q => k_asm); (case h1_q => k_asm); (case N_q => k_asm); (case h2_q => k_mem))))
  (k_with "execs cons" => (k_here; (try (with_reducible refine gentok ?_; intro _)); (with_reducible refine wpAny_execs_cons ?_); (try dsimp only); (try k_fold)))
  (k_with "execs nil" => (k_here; with_reducible refine gentok ?_; intro _))
  (k_with "np_handed" => (exact handed_opt _ _))
  (k_with "np_enter" => (case ho => k_dflt k_is); (case hcd => k_dflt k_is); (try (case hr => (first | omega | (dsimp only; omega)))); (case hbind => first | exact BindsTo.of_eq rfl | (refine' binds_K ?bx_q ?b1_q ?b2_q ?b3_q ?b4_q ?b5_q; (case bx_q => assumption); (case b1_q => exact rfl); (case b2_q => k_dflt k_is); (case b3_q => exact rfl); (case b4_q => exact rfl); (case b5_q => exact rfl))); (case hloc => exact locs rfl); (case ha => exact rfl); (case hb => exact rfl); (case hc => exact rfl); (case hd => decide))
  (k_with "np_enterX" => (case ho => k_dflt k_is); (case hcd => k_dflt k_is); (try (case hr => (first | omega | (dsimp only; omega)))); (case hbind => first | exact BindsTo.of_eq rfl | (refine' binds_K ?bx_q ?b1_q ?b2_q ?b3_q ?b4_q ?b5_q; (case bx_q => assumption); (case b1_q => exact rfl); (case b2_q => k_dflt k_is); (case b3_q => exact rfl); (case b4_q => exact rfl); (case b5_q => exact rfl))); (case hkd => exact rfl); (case hnd => decide +kernel); (case ha => exact rfl); (case hb => exact rfl); (case hc => exact rfl))
  trivial


theorem wNpB1 : True := by
  (k_with "call ref" => (k_here; (with_reducible show wpAny _ _ (call (Value.ref 74) _) _ _ _); (with_reducible rename Fr _ _ _ _ => cF'q); (with_reducible rename News _ _ _ _ => cN'q); refine' has_spec ?G_q ?k_q ?a_q ?d_q ?x_q ?_; (case G_q => k_asm); (case k_q => exact Fr.keep cF'q); (case a_q => exact rfl); (case d_q => (simp only [depth_under_make, depth_in1, depth_deeper]; omega)); (case x_q => exact StAt.up (by assumption) (Fr.keep cF'q)); k_whole; intro _ _ U'q; (have F'q := Fr.keeps cF'q U'q); (have N'q := News.grown cN'q U'q); (clear cF'q cN'q U'q); (try dsimp only)))
  (k_with "eval ListComp" => (k_here; first | (lct_look; k_dflt (refine LCt.ListComp_T (F₀ := by k_asm) (by with_unfolding_all rfl) (by decide) (by rfl) (by decide) (by rfl) ?_)) | ((with_reducible show wpAny _ _ (eval (Expr.ListComp _ [Comprehension.mk _ _ [] _] _ _) _) _ _ _); k_dflt (refine LCg.ListComp_U (F₀ := by k_asm) (by with_unfolding_all rfl) (by decide) (by rfl) (by decide) (by rfl) ?_))))
  trivial
section
variable {w : World} {A : Around} {s : Shared} {h₀ : Heap} {Q E : Value → Shared → Prop} {x d : Addr} {σ : St}
theorem esAt_ground {s g : Heap} {SL : Addr} {es : List Ent} {lo : Obj} (hE : EsAt s es) (hL : s.get? SL = some lo) (hc : lo.cls = .type "list") (kG : GSub s g [SL]) : EsAt g es := fun e he => by
  obtain ⟨q, t, a, b⟩ := hE e he
  exact ⟨q, t, kG _ _ a (by simpa using ne_of_cls a hL (by simp [hc])), kG _ _ b (by simpa using ne_of_cls b hL (by simp [hc]))⟩

theorem boolsAre_map {α : Type} (f : α → Bool) : ∀ l : List α, LSm.BoolsAre (l.map fun a => .bool (f a)) (l.map f)
  | [] => .nil
  | _ :: l => .cons _ (boolsAre_map f l)
theorem is_known_spec {R dR SL : Addr} {S : Sc} {es : List Ent} {b m : Int} {tb tm : Tok} {nl : Nat} (G : Gr w h₀) (hk : Up h₀ s.heap) (hA : A.handled = none) (hd : A.depth + 3 < recursionLimit) (hR : RAt s.heap R dR S SL)
    (hL : s.heap.get? SL = some (listOf (refsE es).toArray nl)) (hlen : es.length ≤ 100) (hLf : h₀.get? SL = none) (hE : EsAt s.heap es)
    (ret : ∀ h' tk, Up s.heap h' → Q (.bool (es.any fun e => hasB e.2.2 b m)) {s with heap := h', toks := tk}) : wpAny (model Pg w) A (call (.ref 135) [.ref R, .int b tb, .int m tm]) Q E s := by
  obtain ⟨ah, ad, af, ag, au⟩ := A
  obtain rfl : ah = none := hA
  dsimp only at hd
  obtain ⟨q, t, hR, hdR⟩ := hR
  have hn1 : R ≠ SL := ne_of_cls hR hL (by simp)
  have hn2 : dR ≠ SL := ne_of_cls hdR hL (by simp)
  refine' enterX (D := [(SL, listOf (refsE es).toArray nl)]) (binds := [(Str.ofString "self", .ref R), (Str.ofString "begin", .int b tb), (Str.ofString "many", .int m tm)]) G hk (List.forall_mem_singleton.mpr ⟨hL, hLf⟩) ?ho ?hcd ?hr ?hbind ?hkd ?hnd ?_ ?ha ?hb ?hc
  walk_at "np_enterX"
  intro g' L' h' tk0 mean mg mb cells F' N' Y' l1 X' T' G' kG'
  have hEg : EsAt g' es := esAt_ground hE hL rfl kG'
  have hR' := kG' _ _ hR (by simpa using hn1)
  have hdR' := kG' _ _ hdR (by simpa using hn2)
  k_cells Y'
  simp only [List.cons_append, List.nil_append] at N'
  try dsimp only
  k_unmd
  k_fold
  k_steps
  rename Fr _ _ _ _ => kF; rename News _ _ _ _ => kN
  refine Halt.mk ?_
  refine LCg.CompSrc.ledger rfl kF kN (by k_mem) (by rw [sizeLine_eq]; simp only [refsE, List.size_toArray, List.length_map]; omega) (fun h1 => comp_rest (α := Ent) (f := fun e => .ref e.1) (l₀ := es)
    (fun r ys n => n = [(L' + 1 + 1, _), (L' + 1, _), (SL, listOf (refsE es).toArray nl)] ∧ ∃ dn, es = dn ++ r ∧ ys = dn.map fun e => Value.bool (hasB e.2.2 b m)) ?turn ?fin ⟨rfl, [], rfl, rfl⟩)
  case turn =>
    rintro ⟨x, d, σ⟩ r ys n I oI C oC D m₂ h tk E' ⟨rfl, dn, hdn, rfl⟩ hC hx F' N' off ne
    have hst : StAt g' x d σ := hEg (x, d, σ) (by rw [hdn]; simp)
    obtain ⟨q', t', hx', hd'⟩ := id hst
    clear kF kN
    k_unmd
    try k_fold
    k_steps
    rename Fr _ _ _ _ => kF; rename News _ _ _ _ => kN
    exact Halt.mk (LCg.CompEnd.intro kF kN _ (fun p hp => hp) off (.inr ⟨_, by k_mem, rfl, _, rfl⟩) ⟨rfl, dn ++ [(x, d, σ)], by rw [hdn]; simp, by simp⟩)
  case fin =>
    clear kF kN
    rintro ys n ⟨rfl, dn, hdn, rfl⟩ D h tk F' N' off
    rw [List.append_nil] at hdn
    subst hdn
    try dsimp only
    k_unmd
    try k_fold
    k_steps
    rename Fr _ _ _ _ => kF; rename News _ _ _ _ => kN
    refine LSm.any_bools kF kN rfl (kN.isList (.head _)) (boolsAre_map _ _) fun h2 tk2 kF kN => ?_
    rw [List.any_map]
    exact ret _ _ (up_of_news kG' kF kN (List.forall_mem_singleton.mpr hL) (List.forall_mem_singleton.mpr (by k_mem)))
end
end

section
theorem offNpC : True := by w_top off; trivial
theorem wNpC0 : True := by
  k_with_none
  (k_with "np_omega" => (first
      | (with_reducible assumption)
      | omega -splitDisjunctions
      | ((with_reducible show @Ne Nat _ _); with_reducible refine Ne.symm ?_; with_reducible assumption)
      | (refine Nat.le_antisymm ?_ ?_ <;> omega -splitDisjunctions)
      | (refine Int.le_antisymm ?_ ?_ <;> omega -splitDisjunctions)
      | omega +splitDisjunctions))
  (k_with "np_mm" => (first
      | (simp (disch := (first | assumption | exact Int.le_of_lt (by assumption) | exact Int.not_lt.mp (by assumption) | omega)) only [Int.max_eq_right, Int.max_eq_left, Int.min_eq_right, Int.min_eq_left]; done)
      | omega))
  (k_with "np_lt" => (k_dflt (repeat (intro _)); k_dflt (refine Got.mk ?_)))
  (k_with "np_ne" => (first
      | (with_reducible refine Nat.ne_of_lt ?_; with_reducible assumption)
      | (with_reducible refine Nat.ne_of_gt ?_; with_reducible assumption)
      | (with_reducible assumption)
      | (with_reducible refine Ne.symm ?_; with_reducible assumption)
      | (refine neN ?_; (try dsimp only); omega)))
  (k_with "np_mem" => (first
      | ((repeat' (with_reducible first | exact List.Mem.head _ | refine List.Mem.tail _ ?_)); done)
      | (with_reducible assumption)
      | assumption))
  (k_with "ite" => (k_closed; k_dflt (first | refine ite_pos (by decide) ?_ | refine ite_neg (by decide) ?_)))
  (k_with "callWith ref" => (k_here; k_dflt (first | (refine' callWith_K ?k1_q ?k2_q ?_; (case k1_q => k_asm); (case k2_q => k_is); k_whole) | (refine' callWith_K0 ?k1_q ?k2_q ?_; (case k1_q => exact Frag.In.keeps (by k_asm) (Fr.keep (by k_asm))); (case k2_q => k_is); k_whole))))
  (k_with "CompEnd" => (with_reducible refine haltIt ?_))
  (k_with "CompSrc" => (with_reducible refine haltIt ?_))
  (k_with "CompSrcT" => (with_reducible refine haltIt ?_))
  (k_with "np_inst" => (first
      | (refine' InstAt.of_base ?F_q ?h1_q ?h2_q; (case F_q => k_asm); (case h1_q => k_asm); (case h2_q => k_asm))
      | (refine' InstAt.of_mixed ?F_q ?h1_q ?N_q ?h2_q; (case F_q => k_asm); (case h1_q => k_asm); (case N_q => k_asm); (case h2_q => k_mem))))
  (k_with "execs cons" => (k_here; (try (with_reducible refine gentok ?_; intro _)); (with_reducible refine wpAny_execs_cons ?_); (try dsimp only); (try k_fold)))
  (k_with "execs nil" => (k_here; with_reducible refine gentok ?_; intro _))
  (k_with "np_handed" => (exact handed_opt _ _))
  (k_with "np_enter" => (case ho => k_dflt k_is); (case hcd => k_dflt k_is); (try (case hr => (first | omega | (dsimp only; omega)))); (case hbind => first | exact BindsTo.of_eq rfl | (refine' binds_K ?bx_q ?b1_q ?b2_q ?b3_q ?b4_q ?b5_q; (case bx_q => assumption); (case b1_q => exact rfl); (case b2_q => k_dflt k_is); (case b3_q => exact rfl); (case b4_q => exact rfl); (case b5_q => exact rfl))); (case hloc => exact locs rfl); (case ha => exact rfl); (case hb => exact rfl); (case hc => exact rfl); (case hd => decide))
  (k_with "np_enterX" => (case ho => k_dflt k_is); (case hcd => k_dflt k_is); (try (case hr => (first | omega | (dsimp only; omega)))); (case hbind => first | exact BindsTo.of_eq rfl | (refine' binds_K ?bx_q ?b1_q ?b2_q ?b3_q ?b4_q ?b5_q; (case bx_q => assumption); (case b1_q => exact rfl); (case b2_q => k_dflt k_is); (case b3_q => exact rfl); (case b4_q => exact rfl); (case b5_q => exact rfl))); (case hkd => exact rfl); (case hnd => decide +kernel); (case ha => exact rfl); (case hb => exact rfl); (case hc => exact rfl))
  trivial


theorem wNpC1 : True := by
  (k_with "pyIter ref" => (with_reducible refine haltIt ?_))
  (k_with "call ref" => (k_here; (with_reducible show wpAny _ _ (call (Value.ref 74) _) _ _ _); (with_reducible rename Fr _ _ _ _ => cF'q); (with_reducible rename News _ _ _ _ => cN'q); refine' has_spec ?G_q ?k_q ?a_q ?d_q ?x_q ?_; (case G_q => k_asm); (case k_q => exact Fr.keep cF'q); (case a_q => exact rfl); (case d_q => (simp only [depth_under_make, depth_in1, depth_deeper]; omega)); (case x_q => exact StAt.up (by assumption) (Fr.keep cF'q)); k_whole; intro _ _ U'q; (have F'q := Fr.keeps cF'q U'q); (have N'q := News.grown cN'q U'q); (clear cF'q cN'q U'q); (try dsimp only)))
  (k_with "eval ListComp" => (k_here; first | (lct_look; k_dflt (refine LCt.ListComp_T (F₀ := by k_asm) (by with_unfolding_all rfl) (by decide) (by rfl) (by decide) (by rfl) ?_)) | ((with_reducible show wpAny _ _ (eval (Expr.ListComp _ [Comprehension.mk _ _ [] _] _ _) _) _ _ _); k_dflt (refine LCg.ListComp_U (F₀ := by k_asm) (by with_unfolding_all rfl) (by decide) (by rfl) (by decide) (by rfl) ?_))))
  trivial
section
variable {w : World} {A : Around} {s : Shared} {h₀ : Heap} {Q E : Value → Shared → Prop} {x d : Addr} {σ : St}
noncomputable def staleF (acc e : Ent) : Ent := if e.2.2.stamp < acc.2.2.stamp then e else acc
noncomputable def staleE (e₀ : Ent) (r : List Ent) : Ent := (e₀ :: r).foldl staleF e₀
theorem stalest_spec {R dR SL : Addr} {S : Sc} {e₀ : Ent} {es : List Ent} {nl : Nat} (G : Gr w h₀) (hk : Up h₀ s.heap) (hA : A.handled = none) (hd : A.depth + 3 < recursionLimit) (hR : RAt s.heap R dR S SL)
    (hL : s.heap.get? SL = some (listOf (refsE (e₀ :: es)).toArray nl)) (hLf : h₀.get? SL = none) (hE : EsAt s.heap (e₀ :: es))
    (ret : ∀ h' tk, Up s.heap h' → Q (.ref (staleE e₀ es).1) {s with heap := h', toks := tk}) : wpAny (model Pg w) A (call (.ref 157) [.ref R]) Q E s := by
  obtain ⟨ah, ad, af, ag, au⟩ := A
  obtain rfl : ah = none := hA
  dsimp only at hd
  obtain ⟨q, t, hR, hdR⟩ := hR
  have hn1 : R ≠ SL := ne_of_cls hR hL (by simp)
  have hn2 : dR ≠ SL := ne_of_cls hdR hL (by simp)
  refine' enter (D := [(SL, listOf (refsE (e₀ :: es)).toArray nl)]) (binds := [(Str.ofString "self", .ref R)]) G hk (List.forall_mem_singleton.mpr ⟨hL, hLf⟩) ?ho ?hcd ?hr ?hbind ?hloc ?_ ?ha ?hb ?hc ?hd
  walk_at "np_enter"
  intro g' L' h' mean mg mb F' N' X' T' G' kG'
  have hEg : EsAt g' (e₀ :: es) := esAt_ground hE hL rfl kG'
  have hR' := kG' _ _ hR (by simpa using hn1)
  have hdR' := kG' _ _ hdR (by simpa using hn2)
  try dsimp only
  k_unmd
  k_fold
  k_steps
  rename Fr _ _ _ _ => kF; rename News _ _ _ _ => kN
  refine Halt.mk ?_
  refine loop_list (α := Ent) (f := fun e => .ref e.1) (l := e₀ :: es) (fun r m' n' => Hold (n' = [(SL, listOf (refsE (e₀ :: es)).toArray nl)] ∧ (∃ acc, acc ∈ e₀ :: es ∧ staleE e₀ es = r.foldl staleF acc ∧ m' (Str.ofString "found") = some (.ref acc.1)) ∧
      (∀ y, [Str.ofString "stream", Str.ofString "found"].contains y = false → m' y = List.lookup y [(Str.ofString "self", Value.ref R)].reverse) ∧ ∀ e ∈ r, e ∈ e₀ :: es))
    (L := L') rfl rfl kF kN (.head _) rfl rfl (Hold.mk ⟨rfl, ⟨e₀, .head _, rfl, rfl⟩, fun y hy => by rw [if_neg (off2 hy).2], fun _ h => h⟩) ?nil ?cons
  case nil =>
    clear kF kN
    rintro m' n' h' tk' ⟨rfl, ⟨acc, hacc, hf, hm0⟩, hm, -⟩ F' N'
    replace F' := fr_acc0 (x := Str.ofString "stream") F' hm0 hm
    try dsimp only
    k_unmd
    try k_fold
    k_steps
    rename Fr _ _ _ _ => kF; rename News _ _ _ _ => kN
    have ret' := ret
    rw [hf] at ret'
    exact ret' _ _ (up_of_news kG' kF kN (List.forall_mem_singleton.mpr hL) (List.forall_mem_singleton.mpr (by k_mem)))
  case cons =>
    clear kF kN
    rintro ⟨x, d, σ⟩ r m' n' I it h' tk' hI ⟨rfl, ⟨⟨y, e, ρ⟩, hacc, hf, hm0⟩, hm, hr⟩ hit F' N'
    have hst : StAt g' x d σ := hEg _ (hr _ (.head _))
    obtain ⟨q', t', hx', hd'⟩ := id hst
    obtain ⟨q2', t2', hy', he'⟩ := hEg _ hacc
    dsimp only at hy' he' hm0
    replace F' := fr_acc F' hm0 hm
    k_unmd
    k_fold
    k_steps
    all_goals refine Hold.mk ⟨rfl, ⟨staleF (y, e, ρ) (x, d, σ), ?_, hf, ?_⟩, fun z hz => ?_, fun e he => hr e (.tail _ he)⟩
    all_goals first
      | (rw [show staleF (y, e, ρ) (x, d, σ) = (x, d, σ) from if_pos (by assumption)]; first | rfl | exact hr _ (.head _))
      | (rw [show staleF (y, e, ρ) (x, d, σ) = (y, e, ρ) from if_neg (show ¬ σ.stamp < ρ.stamp by omega)]; first | rfl | exact hacc)
      | (obtain ⟨h1, h2⟩ := off2 hz; dsimp only; simp only [if_neg h1, if_neg h2])
end
end

section
theorem offNpD : True := by w_top off; trivial
theorem wNpD0 : True := by
  k_with_none
  (k_with "np_omega" => (first
      | (with_reducible assumption)
      | omega -splitDisjunctions
      | ((with_reducible show @Ne Nat _ _); with_reducible refine Ne.symm ?_; with_reducible assumption)
      | (refine Nat.le_antisymm ?_ ?_ <;> omega -splitDisjunctions)
      | (refine Int.le_antisymm ?_ ?_ <;> omega -splitDisjunctions)
      | omega +splitDisjunctions))
  (k_with "np_mm" => (first
      | (simp (disch := (first | assumption | exact Int.le_of_lt (by assumption) | exact Int.not_lt.mp (by assumption) | omega)) only [Int.max_eq_right, Int.max_eq_left, Int.min_eq_right, Int.min_eq_left]; done)
      | omega))
  (k_with "np_lt" => (k_dflt (repeat (intro _)); k_dflt (refine Got.mk ?_)))
  (k_with "np_ne" => (first
      | (with_reducible refine Nat.ne_of_lt ?_; with_reducible assumption)
      | (with_reducible refine Nat.ne_of_gt ?_; with_reducible assumption)
      | (with_reducible assumption)
      | (with_reducible refine Ne.symm ?_; with_reducible assumption)
      | (refine neN ?_; (try dsimp only); omega)))
  (k_with "np_mem" => (first
      | ((repeat' (with_reducible first | exact List.Mem.head _ | refine List.Mem.tail _ ?_)); done)
      | (with_reducible assumption)
      | assumption))
  (k_with "ite" => (k_closed; k_dflt (first | refine ite_pos (by decide) ?_ | refine ite_neg (by decide) ?_)))
  (k_with "callWith ref" => (k_here; k_dflt (first | (refine' callWith_K ?k1_q ?k2_q ?_; (case k1_q => k_asm); (case k2_q => k_is); k_whole) | (refine' callWith_K0 ?k1_q ?k2_q ?_; (case k1_q => exact Frag.In.keeps (by k_asm) (Fr.keep (by k_asm))); (case k2_q => k_is); k_whole))))
  (k_with "CompEnd" => (with_reducible refine haltIt ?_))
  (k_with "CompSrc" => (with_reducible refine haltIt ?_))
  (k_with "CompSrcT" => (with_reducible refine haltIt ?_))
  (k_with "np_inst" => (first
      | (refine' InstAt.of_base ?F_q ?h1_q ?h2_q; (case F_q => k_asm); (case h1_q => k_asm); (case h2_q => k_asm))
      | (refine' InstAt.of_mixed ?F_q ?h1_q ?N_q ?h2_q; (case F_q => k_asm); (case h1_q => k_asm); (case N_q => k_asm); (case h2_q => k_mem))))
  (k_with "execs cons" => (k_here; (try (with_reducible refine gentok ?_; intro _)); (with_reducible refine wpAny_execs_cons ?_); (try dsimp only); (try k_fold)))
  (k_with "execs nil" => (k_here; with_reducible refine gentok ?_; intro _))
  (k_with "exec Assign cons ListComp" => (walk_at "exec Assign"))
  (k_with "np_handed" => (exact handed_opt _ _))
  (k_with "np_enter" => (case ho => k_dflt k_is); (case hcd => k_dflt k_is); (try (case hr => (first | omega | (dsimp only; omega)))); (case hbind => first | exact BindsTo.of_eq rfl | (refine' binds_K ?bx_q ?b1_q ?b2_q ?b3_q ?b4_q ?b5_q; (case bx_q => assumption); (case b1_q => exact rfl); (case b2_q => k_dflt k_is); (case b3_q => exact rfl); (case b4_q => exact rfl); (case b5_q => exact rfl))); (case hloc => exact locs rfl); (case ha => exact rfl); (case hb => exact rfl); (case hc => exact rfl); (case hd => decide))
  (k_with "np_enterX" => (case ho => k_dflt k_is); (case hcd => k_dflt k_is); (try (case hr => (first | omega | (dsimp only; omega)))); (case hbind => first | exact BindsTo.of_eq rfl | (refine' binds_K ?bx_q ?b1_q ?b2_q ?b3_q ?b4_q ?b5_q; (case bx_q => assumption); (case b1_q => exact rfl); (case b2_q => k_dflt k_is); (case b3_q => exact rfl); (case b4_q => exact rfl); (case b5_q => exact rfl))); (case hkd => exact rfl); (case hnd => decide +kernel); (case ha => exact rfl); (case hb => exact rfl); (case hc => exact rfl))
  trivial


theorem wNpD1 : True := by
  (k_with "call ref" => (k_here; (with_reducible show wpAny _ _ (call (Value.ref 88) _) _ _ _); (with_reducible rename Fr _ _ _ _ => cF'q); (with_reducible rename News _ _ _ _ => cN'q); refine' is_like_spec ?G_q ?k_q ?a_q ?d_q ?x_q ?y_q ?_; (case G_q => k_asm); (case k_q => exact Fr.keep cF'q); (case a_q => exact rfl); (case d_q => (simp only [depth_under_make, depth_in1, depth_deeper]; omega)); (case x_q => exact StAt.up (by assumption) (Fr.keep cF'q)); (case y_q => exact StAt.up (by assumption) (Fr.keep cF'q)); k_whole; intro _ _ U'q; (have F'q := Fr.keeps cF'q U'q); (have N'q := News.grown cN'q U'q); (clear cF'q cN'q U'q); (try dsimp only)))
  (k_with "eval ListComp" => (k_here; first | (lct_look; k_dflt (refine LCt.ListComp_T (F₀ := by k_asm) (by with_unfolding_all rfl) (by decide) (by rfl) (by decide) (by rfl) ?_)) | ((with_reducible show wpAny _ _ (eval (Expr.ListComp _ [Comprehension.mk _ _ [] _] _ _) _) _ _ _); k_dflt (refine LCg.ListComp_U (F₀ := by k_asm) (by with_unfolding_all rfl) (by decide) (by rfl) (by decide) (by rfl) ?_))))
  trivial
section
variable {w : World} {A : Around} {s : Shared} {h₀ : Heap} {Q E : Value → Shared → Prop} {x d : Addr} {σ : St}
/-- what join keeps behind the stream σ -/
noncomputable def keepJ (σ : St) (e : Ent) : Bool := decide (e.2.2.stamp = σ.stamp) || !likeB e.2.2 σ
theorem join_spec {R dR SL : Addr} {S : Sc} {es : List Ent} {nl : Nat} (G : Gr w h₀) (hk : Up h₀ s.heap) (hA : A.handled = none) (hd : A.depth + 3 < recursionLimit) (hR : RAt s.heap R dR S SL) (hRf : h₀.get? dR = none)
    (hL : s.heap.get? SL = some (listOf (refsE es).toArray nl)) (hlen : es.length ≤ 100) (hLf : h₀.get? SL = none) (hE : EsAt s.heap es) (hx : (x, d, σ) ∈ es) (hne : ∀ e ∈ es, e.1 ≠ dR ∧ e.2.1 ≠ dR)
    (ret : ∀ h' tk SL' k, KeepBut [dR] s.heap h' → s.heap.get? SL' = none → h'.get? SL' = some (listOf (refsE (es.filter (keepJ σ))).toArray k) → RAt h' R dR S SL' → Q .none {s with heap := h', toks := tk}) : wpAny (model Pg w) A (call (.ref 162) [.ref R, .ref x]) Q E s := by
  obtain ⟨ah, ad, af, ag, au⟩ := A
  obtain rfl : ah = none := hA
  dsimp only at hd
  obtain ⟨q, t, hR, hdR⟩ := hR
  have hn1 : R ≠ SL := ne_of_cls hR hL (by simp)
  have hn2 : dR ≠ SL := ne_of_cls hdR hL (by simp)
  have hn3 : R ≠ dR := ne_of_cls hR hdR (by simp)
  refine' enterX (D := [(dR, dictOf (rEs q t S SL) 8), (SL, listOf (refsE es).toArray nl)]) (binds := [(Str.ofString "self", .ref R), (Str.ofString "stream", .ref x)]) G hk (List.forall_mem_cons.mpr ⟨⟨hdR, hRf⟩, List.forall_mem_singleton.mpr ⟨hL, hLf⟩⟩) ?ho ?hcd ?hr ?hbind ?hkd ?hnd ?_ ?ha ?hb ?hc
  walk_at "np_enterX"
  intro g' L' h' tk0 mean mg mb cells F' N' Y' l1 X' T' G' kG'
  have hEg : EsAt g' es := fun e he => by
    obtain ⟨q, t, a, b⟩ := hE e he
    obtain ⟨n1, n2⟩ := hne e he
    have n3 : e.1 ≠ SL := ne_of_cls a hL (by simp)
    have n4 : e.2.1 ≠ SL := ne_of_cls b hL (by simp)
    exact ⟨q, t, kG' _ _ a (by simp [n1, n3]), kG' _ _ b (by simp [n2, n4])⟩
  have hR' := kG' _ _ hR (by simp [hn1, hn3])
  have hsx : StAt g' x d σ := hEg _ hx
  obtain ⟨qx, tx, hx1, hx2⟩ := id hsx
  k_cells Y'
  simp only [List.cons_append, List.nil_append] at N'
  k_lt l1
  try dsimp only
  k_unmd
  k_fold
  k_steps
  rename Fr _ _ _ _ => kF; rename News _ _ _ _ => kN
  refine Halt.mk ?_
  refine LCt.CompSrcT.ledger rfl kF kN (by k_mem) (by rw [sizeLine_eq]; simp only [List.size_toArray, List.length_map]; omega) (fun h1 => comp_restT (α := Ent) (f := fun e => .ref e.1) (l₀ := es)
    (fun r ys n => Hold (n = [(L' + 1, _), (dR, _), (SL, listOf (refsE es).toArray nl)] ∧ ∃ dn, es = dn ++ r ∧ ys = refsE (dn.filter (keepJ σ)))) ?turn ?fin (Hold.mk ⟨rfl, [], rfl, rfl⟩))
  case turn =>
    rintro ⟨y, e, ρ⟩ r ys n I oI C oC D m₂ h tk E' ⟨rfl, dn, hdn, rfl⟩ hC hx F' N' off ne
    have hst : StAt g' y e ρ := hEg (y, e, ρ) (by rw [hdn]; simp)
    obtain ⟨q', t', hy', he'⟩ := id hst
    clear kF kN
    k_unmd
    try k_fold
    k_steps
    all_goals (rename Fr _ _ _ _ => kF; rename News _ _ _ _ => kN)
    all_goals exact Halt.mk (LCg.CompEnd.intro kF kN _ (fun p hp => hp) off (.inr ⟨_, by k_mem, rfl, _, rfl⟩) (Hold.mk ⟨rfl, dn ++ [(y, e, ρ)], by rw [hdn]; simp, by simp [refsE, List.filter_append, keepJ, *]⟩))
  case fin =>
    clear kF kN
    rintro ys n ⟨rfl, dn, hdn, rfl⟩ D h tk F' N' off
    rw [List.append_nil] at hdn
    subst hdn
    (refine offTo off ?_; clear off; walk_at "np_lt")
    have hn2' := neN hn2
    try dsimp only
    k_unmd
    try k_fold
    k_steps
    rename Fr _ _ _ _ => kF; rename News _ _ _ _ => kN
    refine ret _ _ D _ ?_ ?_ (kN.get (.head _)) (RAt.mk' (kF.keep _ _ hR') (kN.get (by k_mem)))
    · exact keepBut_news kG' kF kN (List.forall_mem_cons.mpr ⟨hdR, List.forall_mem_singleton.mpr hL⟩) (List.forall_mem_cons.mpr ⟨.inl (.head _), List.forall_mem_singleton.mpr (.inr (by k_mem))⟩)
    · refine none_but kG' kN (.head _) ?_
      simp only [List.map_cons, List.map_nil, List.mem_cons, List.not_mem_nil, or_false, not_or]
      exact ⟨fun e => absurd e.symm (by assumption), fun e => absurd e.symm (by assumption)⟩
end
end

section
theorem offNpP : True := by w_top off; trivial
theorem wNpP0 : True := by
  k_with_none
  (k_with "np_omega" => (first
      | (with_reducible assumption)
      | omega -splitDisjunctions
      | ((with_reducible show @Ne Nat _ _); with_reducible refine Ne.symm ?_; with_reducible assumption)
      | (refine Nat.le_antisymm ?_ ?_ <;> omega -splitDisjunctions)
      | (refine Int.le_antisymm ?_ ?_ <;> omega -splitDisjunctions)
      | omega +splitDisjunctions))
  (k_with "np_mm" => (first
      | (simp (disch := (first | assumption | exact Int.le_of_lt (by assumption) | exact Int.not_lt.mp (by assumption) | omega)) only [Int.max_eq_right, Int.max_eq_left, Int.min_eq_right, Int.min_eq_left]; done)
      | omega))
  (k_with "np_lt" => (k_dflt (repeat (intro _)); k_dflt (refine Got.mk ?_)))
  (k_with "np_ne" => (first
      | (with_reducible refine Nat.ne_of_lt ?_; with_reducible assumption)
      | (with_reducible refine Nat.ne_of_gt ?_; with_reducible assumption)
      | (with_reducible assumption)
      | (with_reducible refine Ne.symm ?_; with_reducible assumption)
      | (refine neN ?_; (try dsimp only); omega)))
  (k_with "np_mem" => (first
      | ((repeat' (with_reducible first | exact List.Mem.head _ | refine List.Mem.tail _ ?_)); done)
      | (with_reducible assumption)
      | assumption))
  (k_with "ite" => (k_closed; k_dflt (first | refine ite_pos (by decide) ?_ | refine ite_neg (by decide) ?_)))
  (k_with "callWith ref" => (k_here; k_dflt (first | (refine' callWith_K ?k1_q ?k2_q ?_; (case k1_q => k_asm); (case k2_q => k_is); k_whole) | (refine' callWith_K0 ?k1_q ?k2_q ?_; (case k1_q => exact Frag.In.keeps (by k_asm) (Fr.keep (by k_asm))); (case k2_q => k_is); k_whole))))
  (k_with "CompEnd" => (with_reducible refine haltIt ?_))
  (k_with "CompSrc" => (with_reducible refine haltIt ?_))
  (k_with "CompSrcT" => (with_reducible refine haltIt ?_))
  (k_with "np_inst" => (first
      | (refine' InstAt.of_base ?F_q ?h1_q ?h2_q; (case F_q => k_asm); (case h1_q => k_asm); (case h2_q => k_asm))
      | (refine' InstAt.of_mixed ?F_q ?h1_q ?N_q ?h2_q; (case F_q => k_asm); (case h1_q => k_asm); (case N_q => k_asm); (case h2_q => k_mem))))
  (k_with "execs cons" => (k_here; (try (with_reducible refine gentok ?_; intro _)); (with_reducible refine wpAny_execs_cons ?_); (try dsimp only); (try k_fold)))
  (k_with "execs nil" => (k_here; with_reducible refine gentok ?_; intro _))
  (k_with "np_handed" => (exact handed_opt _ _))
  (k_with "np_enter" => (case ho => k_dflt k_is); (case hcd => k_dflt k_is); (try (case hr => (first | omega | (dsimp only; omega)))); (case hbind => first | exact BindsTo.of_eq rfl | (refine' binds_K ?bx_q ?b1_q ?b2_q ?b3_q ?b4_q ?b5_q; (case bx_q => assumption); (case b1_q => exact rfl); (case b2_q => k_dflt k_is); (case b3_q => exact rfl); (case b4_q => exact rfl); (case b5_q => exact rfl))); (case hloc => exact locs rfl); (case ha => exact rfl); (case hb => exact rfl); (case hc => exact rfl); (case hd => decide))
  (k_with "np_enterX" => (case ho => k_dflt k_is); (case hcd => k_dflt k_is); (try (case hr => (first | omega | (dsimp only; omega)))); (case hbind => first | exact BindsTo.of_eq rfl | (refine' binds_K ?bx_q ?b1_q ?b2_q ?b3_q ?b4_q ?b5_q; (case bx_q => assumption); (case b1_q => exact rfl); (case b2_q => k_dflt k_is); (case b3_q => exact rfl); (case b4_q => exact rfl); (case b5_q => exact rfl))); (case hkd => exact rfl); (case hnd => decide +kernel); (case ha => exact rfl); (case hb => exact rfl); (case hc => exact rfl))
  trivial



theorem wNpP1 : True := by
  (k_with "call ref" => (k_here; (with_reducible show wpAny _ _ (call (Value.ref 95) _) _ _ _); (with_reducible rename Fr _ _ _ _ => cF'q); (with_reducible rename News _ _ _ _ => cN'q); refine' splain_spec ?G_q ?k_q ?a_q ?d_q ?x_q ?_; (case G_q => k_asm); (case k_q => exact Fr.keep cF'q); (case a_q => exact rfl); (case d_q => (simp only [depth_under_make, depth_in1, depth_deeper]; omega)); (case x_q => exact StAt.up (by assumption) (Fr.keep cF'q)); k_whole; intro _ _ _ _ U'q hr'q ho'q; (have F'q := Fr.keeps cF'q U'q); (have N'q := news_add cF'q cN'q U'q hr'q ho'q); (have nN'q := news_ne cN'q hr'q); (clear cF'q cN'q U'q hr'q ho'q); (try dsimp only)))
  (k_with "eval ListComp" => (k_here; first | (lct_look; k_dflt (refine LCt.ListComp_T (F₀ := by k_asm) (by with_unfolding_all rfl) (by decide) (by rfl) (by decide) (by rfl) ?_)) | ((with_reducible show wpAny _ _ (eval (Expr.ListComp _ [Comprehension.mk _ _ [] _] _ _) _) _ _ _); k_dflt (refine LCg.ListComp_U (F₀ := by k_asm) (by with_unfolding_all rfl) (by decide) (by rfl) (by decide) (by rfl) ?_))))
  trivial
inductive All2 {α β : Type} (R : α → β → Prop) : List α → List β → Prop
  | nil : All2 R [] []
  | cons {a b l l'} : R a b → All2 R l l' → All2 R (a :: l) (b :: l')
theorem All2.snoc {α β : Type} {R : α → β → Prop} {a : α} {b : β} : ∀ {l : List α} {l' : List β}, All2 R l l' → R a b → All2 R (l ++ [a]) (l' ++ [b])
  | _, _, .nil, h => .cons h .nil
  | _, _, .cons h r, h' => .cons h (r.snoc h')
theorem All2.imp {α β : Type} {R R' : α → β → Prop} (f : ∀ a b, R a b → R' a b) : ∀ {l : List α} {l' : List β}, All2 R l l' → All2 R' l l'
  | _, _, .nil => .nil
  | _, _, .cons h r => .cons (f _ _ h) (r.imp f)
theorem All2.len {α β : Type} {R : α → β → Prop} : ∀ {l : List α} {l' : List β}, All2 R l l' → l'.length = l.length
  | _, _, .nil => rfl
  | _, _, .cons _ r => by rw [List.length_cons, List.length_cons, r.len]
noncomputable def TupIn (n : List (Addr × Obj)) (e : St) (y : Value) : Prop := ∃ a t, y = .ref a ∧ (a, stObj t e) ∈ n
theorem readsAll_tups {g h : Heap} {L : Addr} {n n' : List (Addr × Obj)} (N : News g L h n') (hs : ∀ p ∈ n, p ∈ n') : ∀ {dn : List St} {ys : List Value}, All2 (TupIn n) dn ys → ∃ as, ReadsAll h ys (dn.map stP) as
  | _, _, .nil => ⟨_, .nil⟩
  | _, _, .cons ⟨a, t, e, hm⟩ r => by
    subst e
    obtain ⟨as, q⟩ := readsAll_tups N hs r
    obtain ⟨bs, p⟩ := reads_st (N.get (hs _ hm))
    exact ⟨_, .cons p q⟩
noncomputable def plainP (S : Sc) (ss : List St) : PyData := .tuple [.tuple (ss.map stP), .int S.stamp, .int S.hits, .int S.misses, .int S.asked]

section
variable {w : World} {A : Around} {s : Shared} {h₀ : Heap} {Q E : Value → Shared → Prop} {x d : Addr} {σ : St}
theorem plain_spec {R dR SL : Addr} {S : Sc} {es : List Ent} {nl : Nat} (G : Gr w h₀) (hk : Up h₀ s.heap) (hA : A.handled = none) (hd : A.depth + 3 < recursionLimit) (hR : RAt s.heap R dR S SL)
    (hL : s.heap.get? SL = some (listOf (refsE es).toArray nl)) (hlen : es.length ≤ 100) (hLf : h₀.get? SL = none) (hE : EsAt s.heap es)
    (ret : ∀ h' tk c, Up s.heap h' → s.heap.get? c = none → ReadsP h' (.ref c) (plainP S (es.map (·.2.2))) → Q (.ref c) {s with heap := h', toks := tk}) : wpAny (model Pg w) A (call (.ref 177) [.ref R]) Q E s := by
  obtain ⟨ah, ad, af, ag, au⟩ := A
  obtain rfl : ah = none := hA
  dsimp only at hd
  obtain ⟨q, t, hR, hdR⟩ := hR
  have hn1 : R ≠ SL := ne_of_cls hR hL (by simp)
  have hn2 : dR ≠ SL := ne_of_cls hdR hL (by simp)
  refine' enter (D := [(SL, listOf (refsE es).toArray nl)]) (binds := [(Str.ofString "self", .ref R)]) G hk (List.forall_mem_singleton.mpr ⟨hL, hLf⟩) ?ho ?hcd ?hr ?hbind ?hloc ?_ ?ha ?hb ?hc ?hd
  walk_at "np_enter"
  intro g' L' h' mean mg mb F' N' X' T' G' kG'
  have hEg : EsAt g' es := esAt_ground hE hL rfl kG'
  have hR' := kG' _ _ hR (by simpa using hn1)
  have hdR' := kG' _ _ hdR (by simpa using hn2)
  try dsimp only
  k_unmd
  k_fold
  k_steps
  rename Fr _ _ _ _ => kF; rename News _ _ _ _ => kN
  refine Halt.mk ?_
  refine LCg.CompSrc.ledger rfl kF kN (by k_mem) (by rw [sizeLine_eq]; simp only [List.size_toArray, List.length_map]; omega) (fun h1 => comp_rest (α := Ent) (f := fun e => .ref e.1) (l₀ := es)
    (fun r ys n => Hold ((SL, listOf (refsE es).toArray nl) ∈ n ∧ ∃ dn, es = dn ++ r ∧ All2 (TupIn n) (dn.map (·.2.2)) ys)) ?turn ?fin (Hold.mk ⟨.head _, [], rfl, .nil⟩))
  case turn =>
    rintro ⟨x, d, σ⟩ r ys n I oI C oC D m₂ h tk E' ⟨hn, dn, hdn, hys⟩ hC hx F' N' off ne
    have hst : StAt g' x d σ := hEg (x, d, σ) (by rw [hdn]; simp)
    obtain ⟨q', t', hx', hd'⟩ := id hst
    clear kF kN
    k_unmd
    try k_fold
    k_steps
    rename Fr _ _ _ _ => kF; rename News _ _ _ _ => kN; rename NewAt _ _ => nn; rename_i h2 tk2 r2 t2
    refine Halt.mk (LCg.CompEnd.intro kF kN ((r2, stObj t2 σ) :: n) ?sub ?off (.inr ⟨_, .tail _ hn, rfl, _, rfl⟩) (Hold.mk ⟨.tail _ hn, dn ++ [(x, d, σ)], by rw [hdn]; simp, ?all⟩))
    case all =>
      rw [List.map_append]
      exact (hys.imp fun _ _ ⟨a, t, e, hm⟩ => ⟨a, t, e, .tail _ hm⟩).snoc ⟨_, _, rfl, .head _⟩
    case sub =>
      intro p hp
      simp only [List.mem_cons] at hp ⊢
      rcases hp with h | h | h | h | h <;> simp [h]
    case off => exact ⟨⟨(nn _ (by k_mem : (I, oI) ∈ _)).symm, (nn _ (by k_mem : (C, oC) ∈ _)).symm, (nn _ (by k_mem : (D, LCg.lst ys) ∈ _)).symm⟩, off⟩
  case fin =>
    clear kF kN
    rintro ys n ⟨hn, dn, hdn, hys⟩ D h tk F' N' off
    rw [List.append_nil] at hdn
    subst hdn
    have hyl := hys.len
    rw [List.length_map] at hyl
    try dsimp only
    k_unmd
    try k_fold
    k_steps
    rename Fr _ _ _ _ => kF; rename News _ _ _ _ => kN
    obtain ⟨as, hrd⟩ := readsAll_tups (n := n) kN (fun p hp => by simp [hp]) hys
    refine ret _ _ _ (up_of_news kG' kF kN (List.forall_mem_singleton.mpr hL) (List.forall_mem_singleton.mpr (by simp [hn]))) (none_but kG' kN (.head _) ?_) ⟨_, .tuple (kN.get (.head _)) rfl rfl (.cons (.tuple (kN.get (by k_mem)) rfl rfl hrd) (.cons (.int _ _) (.cons (.int _ _) (.cons (.int _ _) (.cons (.int _ _) .nil)))))⟩
    simpa using ne_of_cls (kN.get (.head _)) (kN.get (by simp [hn] : (SL, listOf (refsE es).toArray nl) ∈ _)) (by simp)
end
end

section
theorem wNpR0 : True := by
  k_with_none
  (k_with "np_omega" => (first
      | (with_reducible assumption)
      | omega -splitDisjunctions
      | ((with_reducible show @Ne Nat _ _); with_reducible refine Ne.symm ?_; with_reducible assumption)
      | (refine Nat.le_antisymm ?_ ?_ <;> omega -splitDisjunctions)
      | (refine Int.le_antisymm ?_ ?_ <;> omega -splitDisjunctions)
      | omega +splitDisjunctions))
  (k_with "np_mm" => (first
      | (simp (disch := (first | assumption | exact Int.le_of_lt (by assumption) | exact Int.not_lt.mp (by assumption) | omega)) only [Int.max_eq_right, Int.max_eq_left, Int.min_eq_right, Int.min_eq_left]; done)
      | omega))
  (k_with "np_lt" => (k_dflt (repeat (intro _)); k_dflt (refine Got.mk ?_)))
  (k_with "np_ne" => (first
      | (with_reducible refine Nat.ne_of_lt ?_; with_reducible assumption)
      | (with_reducible refine Nat.ne_of_gt ?_; with_reducible assumption)
      | (with_reducible assumption)
      | (with_reducible refine Ne.symm ?_; with_reducible assumption)
      | (refine neN ?_; (try dsimp only); omega)))
  (k_with "np_mem" => (first
      | ((repeat' (with_reducible first | exact List.Mem.head _ | refine List.Mem.tail _ ?_)); done)
      | (with_reducible assumption)
      | assumption))
  (k_with "ite" => (k_closed; k_dflt (first | refine ite_pos (by decide) ?_ | refine ite_neg (by decide) ?_)))
  (k_with "callWith ref" => (k_here; k_dflt (first | (refine' callWith_K ?k1_q ?k2_q ?_; (case k1_q => k_asm); (case k2_q => k_is); k_whole) | (refine' callWith_K0 ?k1_q ?k2_q ?_; (case k1_q => exact Frag.In.keeps (by k_asm) (Fr.keep (by k_asm))); (case k2_q => k_is); k_whole))))
  (k_with "CompEnd" => (with_reducible refine haltIt ?_))
  (k_with "CompSrc" => (with_reducible refine haltIt ?_))
  (k_with "CompSrcT" => (with_reducible refine haltIt ?_))
  (k_with "np_inst" => (first
      | (refine' InstAt.of_base ?F_q ?h1_q ?h2_q; (case F_q => k_asm); (case h1_q => k_asm); (case h2_q => k_asm))
      | (refine' InstAt.of_mixed ?F_q ?h1_q ?N_q ?h2_q; (case F_q => k_asm); (case h1_q => k_asm); (case N_q => k_asm); (case h2_q => k_mem))))
  (k_with "execs cons" => (k_here; (try (with_reducible refine gentok ?_; intro _)); (with_reducible refine wpAny_execs_cons ?_); (try dsimp only); (try k_fold)))
  (k_with "execs nil" => (k_here; with_reducible refine gentok ?_; intro _))
  (k_with "np_handed" => (exact handed_opt _ _))
  (k_with "np_enter" => (case ho => k_dflt k_is); (case hcd => k_dflt k_is); (try (case hr => (first | omega | (dsimp only; omega)))); (case hbind => first | exact BindsTo.of_eq rfl | (refine' binds_K ?bx_q ?b1_q ?b2_q ?b3_q ?b4_q ?b5_q; (case bx_q => assumption); (case b1_q => exact rfl); (case b2_q => k_dflt k_is); (case b3_q => exact rfl); (case b4_q => exact rfl); (case b5_q => exact rfl))); (case hloc => exact locs rfl); (case ha => exact rfl); (case hb => exact rfl); (case hc => exact rfl); (case hd => decide))
  (k_with "np_enterX" => (case ho => k_dflt k_is); (case hcd => k_dflt k_is); (try (case hr => (first | omega | (dsimp only; omega)))); (case hbind => first | exact BindsTo.of_eq rfl | (refine' binds_K ?bx_q ?b1_q ?b2_q ?b3_q ?b4_q ?b5_q; (case bx_q => assumption); (case b1_q => exact rfl); (case b2_q => k_dflt k_is); (case b3_q => exact rfl); (case b4_q => exact rfl); (case b5_q => exact rfl))); (case hkd => exact rfl); (case hnd => decide +kernel); (case ha => exact rfl); (case hb => exact rfl); (case hc => exact rfl))
  trivial
theorem stream_cmp {P : Params} {h : Heap} {x d : Addr} (X : (Np.hd.heap_1 P).In h) (hx : h.get? x = some (instObj 98 d)) : h.CmpInst x 98 [.type "object"] := by
  have h98 := X 98 _ (by with_unfolding_all rfl)
  have h97 := X 97 _ (by with_unfolding_all rfl)
  exact ⟨_, _, _, 97, _, _, _, _, _, _, _, _, _, _, _, _, _, _, hx, rfl, h98, ⟨_, _, _, h97, rfl, by
    intro e he
    simp only [List.mem_toArray, List.mem_cons, List.not_mem_nil, or_false] at he
    rcases he with rfl | rfl | rfl | rfl | rfl | rfl | rfl | rfl | rfl | rfl | rfl | rfl <;> exact ⟨_, _, rfl⟩, fun _ => rfl⟩, by with_unfolding_all rfl, by with_unfolding_all rfl⟩

section
open SeqAt MeetsSeq
open AutoSeq1 (wpAny_loadPart')
theorem remove_loopAt (l : Addr) (items : Array Value) (n : Nat) (x : Value) (j : Nat) (hj : j < items.size) (k : Nat) (hs1 : items.size ≤ sizeLine) :
    ∀ i : Nat, j - i = k → i ≤ j → Meets (Builtin.«list.remove.loop» ⟨[.ref l, x, rawInt i], []⟩)
      (fun A R s => s.heap.get? l = some { cls := .type "list", dict := none, data := .seq items n, slots := #[] } ∧ (∀ m (hm : m < items.size), m < j → EqAt A.in1 s items[m] x false) ∧ EqAt A.in1 s items[j] x true ∧ R (.ok (.ret .none)) { s with heap := s.heap.update l (Obj.mapSeq fun xs => xs.eraseIdxIfInBounds j) }) := by
  induction k with
  | zero =>
    intro i hk hij prog w A R s h
    obtain ⟨hp, g, d, tk, os⟩ := s; obtain ⟨hl, hno, hit, h⟩ := h
    have hij' : i = j := by omega
    subst hij'
    wp_walk using wpAny_loadPart' hl
    have hi : items[((i : Nat) : Int).toNat]? = some items[i] := by simp [hj]
    rw [hi]
    refine wpAny_bind (hit prog w _ _ ?_)
    have hz' : (items.eraseIdxIfInBounds i).size ≤ sizeLine + 1 := Nat.le_trans (size_erased items _) (Nat.le_succ_of_le hs1)
    wp_walk using (wpAny_updateSeq hl rfl (hz := hs1) (_hz' := hz')), wpAny_loadPart' hl
    simpa using h
  | succ k ih =>
    intro i hk hij prog w A R s h
    obtain ⟨hp, g, d, tk, os⟩ := s; obtain ⟨hl, hno, hit, h⟩ := h
    have hlt : i < items.size := by omega
    wp_walk using wpAny_loadPart' hl
    have hi : items[((i : Nat) : Int).toNat]? = some items[i] := by simp [hlt]
    have hc : ((i : Int) + 1) = ((i + 1 : Nat) : Int) := by push_cast; rfl
    rw [hi]
    refine wpAny_bind (hno i hlt (by omega) prog w _ _ ?_)
    wp_walk
    rw [hc]
    exact ⟨plainId_quiet plain_remove_loop _, codeAny_builtin entry_remove_loop (by
      rw [Around.under_plainId plain_remove_loop _]
      exact ih (i + 1) (by omega) (by omega) prog w A R _ ⟨hl, hno, hit, h⟩)⟩
theorem list_removeAt (l : Addr) (items : Array Value) (n : Nat) (x : Value) (j : Nat) (hj : j < items.size) (hs1 : items.size ≤ sizeLine) :
    Meets (Builtin.«list.remove» ⟨[.ref l, x], []⟩)
      (fun A R s => s.heap.get? l = some { cls := .type "list", dict := none, data := .seq items n, slots := #[] } ∧ (∀ m (hm : m < items.size), m < j → EqAt A.in1 s items[m] x false) ∧ EqAt A.in1 s items[j] x true ∧ R (.ok (.ret .none)) { s with heap := s.heap.update l (Obj.mapSeq fun xs => xs.eraseIdxIfInBounds j) }) := by
  intro prog w A R s h
  obtain ⟨hp, g, d, tk, os⟩ := s; obtain ⟨hl, hno, hit, h⟩ := h
  wp_walk using wpAny_loadPart' hl
  exact ⟨plainId_quiet plain_remove_loop _, codeAny_builtin entry_remove_loop (by
    rw [Around.under_plainId plain_remove_loop _]
    exact remove_loopAt l items n x j hj _ hs1 0 rfl (Nat.zero_le _) prog w A R _ ⟨hl, hno, hit, h⟩)⟩
theorem eqAt_same {A : Around} {s : Shared} {x : Addr} : EqAt A s (.ref x) (.ref x) true := by
  intro prog w E Q hq
  unfold eqBool
  refine wpAny_holding ?_
  rw [if_pos (by simp)]
  exact wpAny_bind (wpAny_rule (wpAny_pure hq))
theorem eqAt_other {P : Params} {A : Around} {s : Shared} {x y dx dy : Addr} (X : (Np.hd.heap_1 P).In s.heap) (hx : s.heap.get? x = some (instObj 98 dx)) (hy : s.heap.get? y = some (instObj 98 dy)) (hne : x ≠ y) (hu : A.units < cLine) : EqAt A s (.ref x) (.ref y) false := by
  obtain ⟨hh, g, d, t, os⟩ := s
  exact EqAt.of_refs hne fun prog w E Q hq => richCompare_eq_other PySem.F.cmp_object PySem.F.cmp_object (stream_cmp X hx) (stream_cmp X hy) hne hu hq
/-- list.remove of an item of the ledger's list -/
theorem np_remove {prog : Program} {w : World} {A : Around} {E : Value → Shared → Prop} {s : Shared} {g : Heap} {L D : Addr} {m : Str → Option Value} {news news' : List (Addr × Obj)} {its : Array Value} {n : Nat} {x : Value} {j : Nat} {Q : Value → Shared → Prop}
    (F : Fr g L s.heap m) (N : News g L s.heap news) (U : Upd D (listOf its n) (listOf (its.eraseIdxIfInBounds j) (n + 1)) news news') (hj : j < its.size) (hz : its.size ≤ sizeLine)
    (hno : ∀ i (hi : i < its.size), i < j → ∀ A', A'.units ≤ A.units + 1 → EqAt A' s its[i] x false) (hit : ∀ A', A'.units ≤ A.units + 1 → EqAt A' s its[j] x true)
    (h : ∀ h', Fr g L h' m → News g L h' news' → Q .none { s with heap := h' }) : wpAny (model prog w) A (call (.builtin "list.remove") [.ref D, x]) Q E s := by
  obtain ⟨pre, post, rfl, rfl, a', b'⟩ := U.split
  have z := N (D, listOf its n) (List.mem_append.mpr (.inr (.head _)))
  refine call_meets PySem.F.slot_list_remove ⟨_, z.1, rfl⟩ PySem.F.entry_list_remove (PySem.F.args_list_remove_2 _ _)
    (list_removeAt D its n x j hj hz)
    ⟨z.1, fun m hm hlt => hno m hm hlt _ (Nat.le_of_eq (units_in1 A)), hit _ (Nat.le_of_eq (units_in1 A)), h _ (F.change (Heap.SameBut.update ..) z.2.1 z.2.2) (ki_turn _ N a' b' rfl ?_)⟩
  have hq : (its.eraseIdxIfInBounds j).size ≠ its.size := by simp [Array.eraseIdxIfInBounds, hj]; omega
  rw [if_neg (by simpa using hq)]
end
end

section
theorem wNpS0 : True := by
  k_with_none
  (k_with "np_omega" => (first
      | (with_reducible assumption)
      | omega -splitDisjunctions
      | ((with_reducible show @Ne Nat _ _); with_reducible refine Ne.symm ?_; with_reducible assumption)
      | (refine Nat.le_antisymm ?_ ?_ <;> omega -splitDisjunctions)
      | (refine Int.le_antisymm ?_ ?_ <;> omega -splitDisjunctions)
      | omega +splitDisjunctions))
  (k_with "np_mm" => (first
      | (simp (disch := (first | assumption | exact Int.le_of_lt (by assumption) | exact Int.not_lt.mp (by assumption) | omega)) only [Int.max_eq_right, Int.max_eq_left, Int.min_eq_right, Int.min_eq_left]; done)
      | omega))
  (k_with "np_lt" => (k_dflt (repeat (intro _)); k_dflt (refine Got.mk ?_)))
  (k_with "np_ne" => (first
      | (with_reducible refine Nat.ne_of_lt ?_; with_reducible assumption)
      | (with_reducible refine Nat.ne_of_gt ?_; with_reducible assumption)
      | (with_reducible assumption)
      | (with_reducible refine Ne.symm ?_; with_reducible assumption)
      | (refine neN ?_; (try dsimp only); omega)))
  (k_with "np_mem" => (first
      | ((repeat' (with_reducible first | exact List.Mem.head _ | refine List.Mem.tail _ ?_)); done)
      | (with_reducible assumption)
      | assumption))
  (k_with "ite" => (k_closed; k_dflt (first | refine ite_pos (by decide) ?_ | refine ite_neg (by decide) ?_)))
  (k_with "callWith ref" => (k_here; k_dflt (first | (refine' callWith_K ?k1_q ?k2_q ?_; (case k1_q => k_asm); (case k2_q => k_is); k_whole) | (refine' callWith_K0 ?k1_q ?k2_q ?_; (case k1_q => exact Frag.In.keeps (by k_asm) (Fr.keep (by k_asm))); (case k2_q => k_is); k_whole))))
  (k_with "CompEnd" => (with_reducible refine haltIt ?_))
  (k_with "CompSrc" => (with_reducible refine haltIt ?_))
  (k_with "CompSrcT" => (with_reducible refine haltIt ?_))
  (k_with "np_inst" => (first
      | (refine' InstAt.of_base ?F_q ?h1_q ?h2_q; (case F_q => k_asm); (case h1_q => k_asm); (case h2_q => k_asm))
      | (refine' InstAt.of_mixed ?F_q ?h1_q ?N_q ?h2_q; (case F_q => k_asm); (case h1_q => k_asm); (case N_q => k_asm); (case h2_q => k_mem))))
  (k_with "execs cons" => (k_here; (try (with_reducible refine gentok ?_; intro _)); (with_reducible refine wpAny_execs_cons ?_); (try dsimp only); (try k_fold)))
  (k_with "execs nil" => (k_here; with_reducible refine gentok ?_; intro _))
  (k_with "np_handed" => (exact handed_opt _ _))
  (k_with "np_enter" => (case ho => k_dflt k_is); (case hcd => k_dflt k_is); (try (case hr => (first | omega | (dsimp only; omega)))); (case hbind => first | exact BindsTo.of_eq rfl | (refine' binds_K ?bx_q ?b1_q ?b2_q ?b3_q ?b4_q ?b5_q; (case bx_q => assumption); (case b1_q => exact rfl); (case b2_q => k_dflt k_is); (case b3_q => exact rfl); (case b4_q => exact rfl); (case b5_q => exact rfl))); (case hloc => exact locs rfl); (case ha => exact rfl); (case hb => exact rfl); (case hc => exact rfl); (case hd => decide))
  (k_with "np_enterX" => (case ho => k_dflt k_is); (case hcd => k_dflt k_is); (try (case hr => (first | omega | (dsimp only; omega)))); (case hbind => first | exact BindsTo.of_eq rfl | (refine' binds_K ?bx_q ?b1_q ?b2_q ?b3_q ?b4_q ?b5_q; (case bx_q => assumption); (case b1_q => exact rfl); (case b2_q => k_dflt k_is); (case b3_q => exact rfl); (case b4_q => exact rfl); (case b5_q => exact rfl))); (case hkd => exact rfl); (case hnd => decide +kernel); (case ha => exact rfl); (case hb => exact rfl); (case hc => exact rfl))
  trivial
noncomputable def minSt : List St → Int
  | [] => 0
  | σ :: r => r.foldl (fun a σ => min a σ.stamp) σ.stamp
noncomputable def dropStale (ss : List St) : List St := ss.eraseP fun σ => decide (σ.stamp = minSt ss)
theorem foldl_min_spec {α : Type} (k : α → Int) : ∀ (l : List α) (a : Int), l.foldl (fun a x => min a (k x)) a ≤ a ∧ (∀ x ∈ l, l.foldl (fun a x => min a (k x)) a ≤ k x) ∧ (l.foldl (fun a x => min a (k x)) a = a ∨ ∃ x ∈ l, l.foldl (fun a x => min a (k x)) a = k x)
  | [], a => ⟨Int.le_refl _, fun _ h => (by cases h), .inl rfl⟩
  | y :: r, a => by
    obtain ⟨h1, h2, h3⟩ := foldl_min_spec k r (min a (k y))
    simp only [List.foldl_cons]
    refine ⟨by omega, fun x hx => ?_, ?_⟩
    · rcases List.mem_cons.mp hx with rfl | hx
      · omega
      · exact h2 x hx
    · rcases h3 with h3 | ⟨x, hx, h3⟩
      · by_cases hy : k y ≤ a
        · exact .inr ⟨y, .head _, by omega⟩
        · exact .inl (by omega)
      · exact .inr ⟨x, .tail _ hx, h3⟩
theorem minSt_le {ss : List St} {σ : St} (h : σ ∈ ss) : minSt ss ≤ σ.stamp := by
  cases ss with
  | nil => cases h
  | cons a r =>
    obtain ⟨h1, h2, h3⟩ := foldl_min_spec (fun σ : St => σ.stamp) r a.stamp
    rcases List.mem_cons.mp h with rfl | h
    · exact h1
    · exact h2 _ h
theorem minSt_mem {ss : List St} (h : ss ≠ []) : ∃ σ ∈ ss, σ.stamp = minSt ss := by
  cases ss with
  | nil => exact absurd rfl h
  | cons a r =>
    obtain ⟨h1, h2, h3⟩ := foldl_min_spec (fun σ : St => σ.stamp) r a.stamp
    rcases h3 with h3 | ⟨x, hx, h3⟩
    · exact ⟨a, .head _, h3.symm⟩
    · exact ⟨x, .tail _ hx, h3.symm⟩
theorem dropStale_split {pre post : List St} {σ : St} (h1 : ∀ e ∈ pre, σ.stamp < e.stamp) (h2 : ∀ e ∈ post, σ.stamp ≤ e.stamp) : dropStale (pre ++ σ :: post) = pre ++ post := by
  have hm : minSt (pre ++ σ :: post) = σ.stamp := by
    obtain ⟨ρ, hρ, e⟩ := minSt_mem (ss := pre ++ σ :: post) (by simp)
    have a := minSt_le (ss := pre ++ σ :: post) (σ := σ) (by simp)
    rw [← e] at a ⊢
    rcases List.mem_append.mp hρ with h | h
    · have := h1 _ h; omega
    · rcases List.mem_cons.mp h with rfl | h
      · rfl
      · have := h2 _ h; omega
  unfold dropStale
  rw [hm, List.eraseP_append_right _ (fun e he => by have := h1 e he; simp; omega), List.eraseP_cons_of_pos (by simp)]
theorem stale_fold {α : Type} (k : α → Int) : ∀ (l : List α) (acc : α), (l.foldl (fun acc e => if k e < k acc then e else acc) acc = acc ∧ ∀ e ∈ l, k acc ≤ k e) ∨ ∃ pre post, l = pre ++ l.foldl (fun acc e => if k e < k acc then e else acc) acc :: post ∧ k (l.foldl (fun acc e => if k e < k acc then e else acc) acc) < k acc ∧ (∀ e ∈ pre, k (l.foldl (fun acc e => if k e < k acc then e else acc) acc) < k e) ∧ ∀ e ∈ post, k (l.foldl (fun acc e => if k e < k acc then e else acc) acc) ≤ k e
  | [], acc => .inl ⟨rfl, fun _ h => (by cases h)⟩
  | a :: r, acc => by
    simp only [List.foldl_cons]
    by_cases h : k a < k acc
    · simp only [if_pos h]
      rcases stale_fold k r a with ⟨e, h1⟩ | ⟨pre, post, e, h1, h2, h3⟩
      · exact .inr ⟨[], r, by rw [e]; rfl, by rw [e]; exact h, fun _ h => (by cases h), by rw [e]; exact h1⟩
      · refine .inr ⟨a :: pre, post, by rw [List.cons_append, ← e], by omega, fun x hx => ?_, h3⟩
        rcases List.mem_cons.mp hx with rfl | hx
        · exact h1
        · exact h2 x hx
    · simp only [if_neg h]
      rcases stale_fold k r acc with ⟨e, h1⟩ | ⟨pre, post, e, h1, h2, h3⟩
      · exact .inl ⟨e, fun x hx => by rcases List.mem_cons.mp hx with rfl | hx; omega; exact h1 x hx⟩
      · refine .inr ⟨a :: pre, post, by rw [List.cons_append, ← e], h1, fun x hx => ?_, h3⟩
        rcases List.mem_cons.mp hx with rfl | hx
        · omega
        · exact h2 x hx
theorem stale_split (e₀ : Ent) (r : List Ent) : ∃ pre post, e₀ :: r = pre ++ staleE e₀ r :: post ∧ (∀ e ∈ pre, (staleE e₀ r).2.2.stamp < e.2.2.stamp) ∧ ∀ e ∈ post, (staleE e₀ r).2.2.stamp ≤ e.2.2.stamp := by
  have hs : staleE e₀ r = r.foldl (fun acc e : Ent => if e.2.2.stamp < acc.2.2.stamp then e else acc) e₀ := by
    show (e₀ :: r).foldl staleF e₀ = _
    rw [List.foldl_cons, show staleF e₀ e₀ = e₀ by simp [staleF]]
    rfl
  rcases stale_fold (fun e : Ent => e.2.2.stamp) r e₀ with ⟨e, h1⟩ | ⟨pre, post, e, h1, h2, h3⟩
  · rw [hs, e]
    exact ⟨[], r, rfl, fun _ h => (by cases h), h1⟩
  · rw [hs]
    refine ⟨e₀ :: pre, post, by rw [List.cons_append, ← e], fun x hx => ?_, h3⟩
    rcases List.mem_cons.mp hx with rfl | hx
    · exact h1
    · exact h2 x hx

/-- the place in a list whence x is taken -/
structure RemAt (es : List Ent) (x : Addr) (j : Nat) : Prop where
  lt : j < es.length
  here : es[j].1 = x
  before : ∀ i (h : i < es.length), i < j → es[i].1 ≠ x
theorem RemAt.of_split {pre post : List Ent} {e : Ent} (hn : ((pre ++ e :: post).map (·.1)).Nodup) : RemAt (pre ++ e :: post) e.1 pre.length ∧ (pre ++ e :: post).eraseIdx pre.length = pre ++ post := by
  refine ⟨⟨by simp, by simp, fun i h hi => ?_⟩, ?_⟩
  · rw [List.getElem_append_left hi]
    rw [List.map_append, List.map_cons, List.nodup_append] at hn
    exact hn.2.2 _ (List.mem_map_of_mem (List.getElem_mem hi)) _ (.head _)
  · rw [List.eraseIdx_append_of_length_le (Nat.le_refl _), Nat.sub_self, List.eraseIdx_zero]; rfl
theorem map_erase {α β : Type} (f : α → β) : ∀ (l : List α) (j : Nat), (l.map f).eraseIdx j = (l.eraseIdx j).map f
  | [], _ => rfl
  | _ :: _, 0 => rfl
  | a :: l, j + 1 => by rw [List.map_cons, List.eraseIdx_cons_succ, List.eraseIdx_cons_succ, List.map_cons, map_erase f l j]
theorem refsE_erase (es : List Ent) (j : Nat) (_h : j < es.length) : (refsE es).toArray.eraseIdxIfInBounds j = (refsE (es.eraseIdx j)).toArray := by
  apply Array.toList_inj.mp
  simp [refsE, map_erase]
theorem remove_stream {prog : Program} {w : World} {A : Around} {E : Value → Shared → Prop} {s : Shared} {g : Heap} {L D x : Addr} {m : Str → Option Value} {news news' : List (Addr × Obj)} {es es' : List Ent} {n j : Nat} {Q : Value → Shared → Prop}
    (J : RemAt es x j) (he : es.eraseIdx j = es') (X : (Np.hd.heap_1 w.params).In g) (hE : EsAt g es) (F : Fr g L s.heap m) (N : News g L s.heap news) (hu : A.units + 1 < cLine) (hz : es.length ≤ 100)
    (U : Upd D (listOf (refsE es).toArray n) (listOf (refsE es').toArray (n + 1)) news news')
    (h : ∀ h', Fr g L h' m → News g L h' news' → Q .none { s with heap := h' }) : wpAny (model prog w) A (call (.builtin "list.remove") [.ref D, .ref x]) Q E s := by
  have hs : (refsE es).toArray.size = es.length := by simp [refsE]
  have hg : ∀ i (h : i < (refsE es).toArray.size), (refsE es).toArray[i] = .ref (es[i]'(hs ▸ h)).1 := fun i h => by simp [refsE]
  have at' : ∀ i (h : i < es.length), ∃ d, s.heap.get? es[i].1 = some (instObj 98 d) := fun i h => by
    obtain ⟨q, t, a, b⟩ := hE es[i] (List.getElem_mem h)
    exact ⟨_, F.keep _ _ a⟩
  rw [← he, ← refsE_erase es j J.lt] at U
  refine np_remove F N U (by rw [hs]; exact J.lt) (by rw [hs, sizeLine_eq]; omega) (fun i hi hlt A' ha => ?_) (fun A' ha => ?_) h
  · rw [hg]
    obtain ⟨d1, h1⟩ := at' i (hs ▸ hi)
    obtain ⟨d2, h2⟩ := at' j J.lt
    rw [J.here] at h2
    exact eqAt_other (X.keeps F.keep) h1 h2 (J.before i (hs ▸ hi) hlt) (by omega)
  · rw [hg, J.here]; exact eqAt_same
end

section
theorem offNpE : True := by w_top off; trivial
theorem wNpE0 : True := by
  k_with_none
  (k_with "np_omega" => (first
      | (with_reducible assumption)
      | omega -splitDisjunctions
      | ((with_reducible show @Ne Nat _ _); with_reducible refine Ne.symm ?_; with_reducible assumption)
      | (refine Nat.le_antisymm ?_ ?_ <;> omega -splitDisjunctions)
      | (refine Int.le_antisymm ?_ ?_ <;> omega -splitDisjunctions)
      | omega +splitDisjunctions))
  (k_with "np_mm" => (first
      | (simp (disch := (first | assumption | exact Int.le_of_lt (by assumption) | exact Int.not_lt.mp (by assumption) | omega)) only [Int.max_eq_right, Int.max_eq_left, Int.min_eq_right, Int.min_eq_left]; done)
      | omega))
  (k_with "np_lt" => (k_dflt (repeat (intro _)); k_dflt (refine Got.mk ?_)))
  (k_with "np_ne" => (first
      | (with_reducible refine Nat.ne_of_lt ?_; with_reducible assumption)
      | (with_reducible refine Nat.ne_of_gt ?_; with_reducible assumption)
      | (with_reducible assumption)
      | (with_reducible refine Ne.symm ?_; with_reducible assumption)
      | (refine neN ?_; (try dsimp only); omega)))
  (k_with "np_mem" => (first
      | ((repeat' (with_reducible first | exact List.Mem.head _ | refine List.Mem.tail _ ?_)); done)
      | (with_reducible assumption)
      | assumption))
  (k_with "ite" => (k_closed; k_dflt (first | refine ite_pos (by decide) ?_ | refine ite_neg (by decide) ?_)))
  (k_with "callWith ref" => (k_here; k_dflt (first | (refine' callWith_K ?k1_q ?k2_q ?_; (case k1_q => k_asm); (case k2_q => k_is); k_whole) | (refine' callWith_K0 ?k1_q ?k2_q ?_; (case k1_q => exact Frag.In.keeps (by k_asm) (Fr.keep (by k_asm))); (case k2_q => k_is); k_whole))))
  (k_with "CompEnd" => (with_reducible refine haltIt ?_))
  (k_with "CompSrc" => (with_reducible refine haltIt ?_))
  (k_with "CompSrcT" => (with_reducible refine haltIt ?_))
  (k_with "np_inst" => (first
      | (refine' InstAt.of_base ?F_q ?h1_q ?h2_q; (case F_q => k_asm); (case h1_q => k_asm); (case h2_q => k_asm))
      | (refine' InstAt.of_mixed ?F_q ?h1_q ?N_q ?h2_q; (case F_q => k_asm); (case h1_q => k_asm); (case N_q => k_asm); (case h2_q => k_mem))))
  (k_with "execs cons" => (k_here; (try (with_reducible refine gentok ?_; intro _)); (with_reducible refine wpAny_execs_cons ?_); (try dsimp only); (try k_fold)))
  (k_with "execs nil" => (k_here; with_reducible refine gentok ?_; intro _))
  (k_with "np_handed" => (exact handed_opt _ _))
  (k_with "np_enter" => (case ho => k_dflt k_is); (case hcd => k_dflt k_is); (try (case hr => (first | omega | (dsimp only; omega)))); (case hbind => first | exact BindsTo.of_eq rfl | (refine' binds_K ?bx_q ?b1_q ?b2_q ?b3_q ?b4_q ?b5_q; (case bx_q => assumption); (case b1_q => exact rfl); (case b2_q => k_dflt k_is); (case b3_q => exact rfl); (case b4_q => exact rfl); (case b5_q => exact rfl))); (case hloc => exact locs rfl); (case ha => exact rfl); (case hb => exact rfl); (case hc => exact rfl); (case hd => decide))
  (k_with "np_enterX" => (case ho => k_dflt k_is); (case hcd => k_dflt k_is); (try (case hr => (first | omega | (dsimp only; omega)))); (case hbind => first | exact BindsTo.of_eq rfl | (refine' binds_K ?bx_q ?b1_q ?b2_q ?b3_q ?b4_q ?b5_q; (case bx_q => assumption); (case b1_q => exact rfl); (case b2_q => k_dflt k_is); (case b3_q => exact rfl); (case b4_q => exact rfl); (case b5_q => exact rfl))); (case hkd => exact rfl); (case hnd => decide +kernel); (case ha => exact rfl); (case hb => exact rfl); (case hc => exact rfl))
  trivial
noncomputable def NeAll (r : Addr) : List (Addr × Obj) → Prop
  | [] => True
  | p :: l => @Ne Nat p.1 r ∧ NeAll r l
theorem neAll_of' {r : Addr} : ∀ {l : List (Addr × Obj)}, NewAt r l → NeAll r l
  | [], _ => trivial
  | p :: _, h => ⟨h p (.head _), neAll_of' fun q hq => h q (.tail _ hq)⟩
theorem neTo {r : Addr} {G : Prop} : ∀ {l : List (Addr × Obj)}, NeAll r l → NeTo r G l → G
  | [], _, h => h.1
  | _ :: _, h, k => neTo h.2 (k h.1)
theorem neAll_of {g h : Heap} {L r : Addr} {news : List (Addr × Obj)} (N : News g L h news) (hr : h.get? r = none) : NeAll r news := neAll_of' (news_ne N hr)
/-- two new objects -/
theorem news_add2 {g h h' : Heap} {L r r2 : Addr} {m : Str → Option Value} {o o2 : Obj} {news : List (Addr × Obj)} (F : Fr g L h m) (N : News g L h news) (U : Up h h') (hr : h.get? r = none) (hr2 : h.get? r2 = none) (ho : h'.get? r = some o) (ho2 : h'.get? r2 = some o2) : News g L h' ((r, o) :: (r2, o2) :: news) := fun p hp => by
  rcases List.mem_cons.mp hp with rfl | hp
  · exact news_add F N U hr ho _ (.head _)
  · exact news_add F N U hr2 ho2 _ hp


theorem wNpE1 : True := by
  (k_with "call ref" => (k_here; (with_reducible show wpAny _ _ (call (Value.ref 157) _) _ _ _); (with_reducible rename Fr _ _ _ _ => cF'q); (with_reducible rename News _ _ _ _ => cN'q); refine' stalest_spec ?G_q ?k_q ?a_q ?d_q ?R_q ?l_q ?f_q ?E_q ?_; (case G_q => k_asm); (case k_q => exact Fr.keep cF'q); (case a_q => exact rfl); (case d_q => (simp only [depth_under_make, depth_in1, depth_deeper]; omega)); (case R_q => exact RAt.up (by assumption) (Fr.keep cF'q)); (case l_q => exact cN'q.get (by k_mem)); (case f_q => assumption); (case E_q => exact EsAt.up (by assumption) (Fr.keep cF'q)); k_whole; intro _ _ U'q; (have F'q := Fr.keeps cF'q U'q); (have N'q := News.grown cN'q U'q); (clear cF'q cN'q U'q); (try dsimp only)))
  (k_with "call ref" => (k_here; (with_reducible show wpAny _ _ (call (Value.ref 98) _) _ _ _); (with_reducible rename Fr _ _ _ _ => cF'q); (with_reducible rename News _ _ _ _ => cN'q); refine' new_spec ?G_q ?k_q ?a_q ?d_q ?_; (case G_q => k_asm); (case k_q => exact Fr.keep cF'q); (case a_q => exact rfl); (case d_q => (simp only [depth_under_make, depth_in1, depth_deeper]; omega)); k_whole; intro _ _ _ _ U'q hx'q hd'q S'q; (have F'q := Fr.keeps cF'q U'q); (obtain ⟨q'q, t'q, S1'q, S2'q⟩ := S'q); (have nx'q := neAll_of cN'q hx'q); (have nd'q := neAll_of cN'q hd'q); (refine neTo nx'q ?_; clear nx'q; walk_at "np_lt"); (refine neTo nd'q ?_; clear nd'q; walk_at "np_lt"); (have N'q := news_add2 cF'q cN'q U'q hx'q hd'q S1'q S2'q); (clear cF'q cN'q U'q S1'q S2'q); (try dsimp only)))
  (k_with "call builtin:list.remove" => (k_here; (with_reducible show wpAny _ _ (call (Value.builtin _) [Value.ref _, Value.ref _]) _ _ _); k_dflt (refine' remove_stream ?J_q ?e_q ?X_q ?E_q ?F_q ?N_q ?u_q ?z_q ?U_q ?_; (case J_q => assumption); (case e_q => assumption); (case X_q => assumption); (case E_q => assumption); (case F_q => k_asm); (case N_q => k_asm); (case U_q => k_upd); (case u_q => (simp only [units_in1, units_deeper] at *; omega)); (case z_q => assumption)); ki_rest))
  trivial
theorem len_refs {prog : Program} {w : World} {A : Around} {E : Value → Shared → Prop} {s : Shared} {g : Heap} {L D : Addr} {news : List (Addr × Obj)} {es : List Ent} {c : Nat} {Q : Value → Shared → Prop} (N : News g L s.heap news) (hm : (D, listOf (refsE es).toArray c) ∈ news) (hf : es.length ≤ 100) (h : Q (.int (es.length : Nat) (s.toks + 1)) { s with toks := s.toks + 1 + 1 }) :
    wpAny (model prog w) A (call (.builtin "len") [.ref D]) Q E s :=
  KM.len_K N hm (by simp [refsE]) (by omega) h
theorem wNpE2 : True := by
  (k_with "call builtin:list.append" => (k_here; (with_reducible show wpAny _ _ (call (Value.builtin _) [Value.ref _, Value.ref _]) _ _ _); k_dflt (refine' append_K ?k1_q ?k2_q ?k3_q ?_ ?z_q; (case k1_q => k_asm); (case k2_q => k_asm); (case k3_q => k_upd); (case z_q => (simp only [refsE, List.size_toArray, List.length_map]; rw [sizeLine_eq]; omega)); k_whole); intro _ _ _; (try k_sweep)))
  (k_with "call builtin:len" => (k_here; (with_reducible show wpAny _ _ (call (Value.builtin "len") [Value.ref _]) _ _ _); (refine len_refs (by k_asm) (by k_mem) (by with_reducible assumption) ?_)))
  trivial
section
variable {w : World} {A : Around} {s : Shared} {h₀ : Heap} {Q E : Value → Shared → Prop} {x d : Addr} {σ : St}
/-- a Readahead as it lies -/
structure RW (h : Heap) (R dR SL : Addr) (S : Sc) (es : List Ent) (nl : Nat) : Prop where
  r : RAt h R dR S SL
  l : h.get? SL = some (listOf (refsE es).toArray nl)
  e : EsAt h es
  n1 : (es.map (·.1)).Nodup
  n2 : (es.map (·.2.1)).Nodup
  ne : ∀ e ∈ es, e.2.1 ≠ dR
theorem refsE_snoc (es : List Ent) (e : Ent) : (refsE es).toArray.push (.ref e.1) = (refsE (es ++ [e])).toArray := by simp [refsE]
theorem get_snoc {g h : Heap} {L a x d : Addr} {news : List (Addr × Obj)} {es : List Ent} {σ : St} {k : Nat} (N : News g L h news) (hm : (a, listOf ((refsE es).toArray.push (.ref x)) k) ∈ news) : h.get? a = some (listOf (refsE (es ++ [(x, d, σ)])).toArray k) := by
  rw [← refsE_snoc]; exact N.get hm
theorem nm1 {a b : Addr} {o : Obj} (h : @Ne Nat a b) : b ∉ List.map (fun x : Addr × Obj => x.1) [(a, o)] := by
  simp only [List.map_cons, List.map_nil, List.mem_singleton]
  exact fun e => h e.symm
noncomputable def startF (many : Int) (ss : List St) : List St := if many ≤ ss.length then dropStale ss else ss

theorem start_spec {R dR SL : Addr} {S : Sc} {es : List Ent} {nl : Nat} {b m : Int} {tb tm : Tok} (G : Gr w h₀) (hk : Up h₀ s.heap) (hA : A.handled = none) (hd : A.depth + 4 < recursionLimit) (hu : A.units + 8 < cLine) (W : RW s.heap R dR SL S es nl)
    (hlen : es.length ≤ 50) (hm : 1 ≤ S.many) (hLf : h₀.get? SL = none)
    (ret : ∀ h' tk es' k x d, KeepBut [SL] s.heap h' → s.heap.get? x = none → s.heap.get? d = none → h'.get? SL = some (listOf (refsE (es' ++ [(x, d, ⟨0, b, b + m, none, S.least, S.stamp⟩)])).toArray k) → StAt h' x d ⟨0, b, b + m, none, S.least, S.stamp⟩ → List.Sublist es' es → es'.map (·.2.2) = startF S.many (es.map (·.2.2)) → Q .none {s with heap := h', toks := tk}) :
    wpAny (model Pg w) A (call (.ref 150) [.ref R, .int b tb, .int m tm]) Q E s := by
  obtain ⟨ah, ad, af, ag, au⟩ := A
  obtain rfl : ah = none := hA
  dsimp only at hd
  obtain ⟨⟨q, t, hR, hdR⟩, hL, hE, n1, n2, hne⟩ := W
  have hn1 : R ≠ SL := ne_of_cls hR hL (by simp)
  have hn2 : dR ≠ SL := ne_of_cls hdR hL (by simp)
  refine' enter (D := [(SL, listOf (refsE es).toArray nl)]) (binds := [(Str.ofString "self", .ref R), (Str.ofString "begin", .int b tb), (Str.ofString "many", .int m tm)]) G hk (List.forall_mem_singleton.mpr ⟨hL, hLf⟩) ?ho ?hcd ?hr ?hbind ?hloc ?_ ?ha ?hb ?hc ?hd
  walk_at "np_enter"
  intro g' L' h' mean mg mb F' N' X' T' G' kG'
  have hEg : EsAt g' es := esAt_ground hE hL rfl kG'
  have hR' := kG' _ _ hR (by simpa using hn1)
  have hdR' := kG' _ _ hdR (by simpa using hn2)
  have hRA : RAt g' R dR S SL := ⟨q, t, hR', hdR'⟩
  have hLg : g'.get? SL = none := (N' _ (.head _)).2.2
  have hl2 : es.length ≤ 100 := by omega
  rcases es with _ | ⟨e₀, r⟩
  · try dsimp only
    k_unmd
    k_fold
    k_steps
    rename News _ _ _ _ => kN; rename Fr _ _ _ _ => kF
    refine ret _ _ [] _ _ _ (keepBut_of kG' kF) (none_but kG' kN (.head _) (nm1 (by assumption))) (none_but kG' kN (.tail _ (.head _)) (nm1 (by assumption))) (get_snoc kN (.tail _ (.tail _ (.head _)))) ⟨_, _, kN.get (.head _), kN.get (.tail _ (.head _))⟩ (List.Sublist.refl _) ?eq
    case eq => simp [startF]; omega
  · obtain ⟨pre, post, hs, h1, h2⟩ := stale_split e₀ r
    obtain ⟨J, hj⟩ := RemAt.of_split (pre := pre) (post := post) (e := staleE e₀ r) (hs ▸ n1)
    rw [← hs] at J hj
    have hl3 : (pre ++ post).length ≤ 100 := by
      have := congrArg List.length hs
      simp only [List.length_append, List.length_cons] at this hlen ⊢
      omega
    try dsimp only
    k_unmd
    k_fold
    k_steps
    · rename News _ _ _ _ => kN; rename Fr _ _ _ _ => kF; rename S.many ≤ _ => hc
      refine ret _ _ (pre ++ post) _ _ _ (keepBut_of kG' kF) (none_but kG' kN (.head _) (nm1 (by assumption))) (none_but kG' kN (.tail _ (.head _)) (nm1 (by assumption))) (get_snoc kN (.tail _ (.tail _ (.head _)))) ⟨_, _, kN.get (.head _), kN.get (.tail _ (.head _))⟩ ?sub ?eq
      case sub => rw [hs]; exact List.Sublist.append_left (List.sublist_cons_self _ _) _
      case eq =>
        unfold startF
        rw [if_pos (by simpa using hc), hs, List.map_append, List.map_append, List.map_cons, dropStale_split]
        · intro e he; obtain ⟨a, ha, rfl⟩ := List.mem_map.mp he; exact h1 a ha
        · intro e he; obtain ⟨a, ha, rfl⟩ := List.mem_map.mp he; exact h2 a ha
    · rename News _ _ _ _ => kN; rename Fr _ _ _ _ => kF; rename ¬ S.many ≤ _ => hc
      refine ret _ _ (e₀ :: r) _ _ _ (keepBut_of kG' kF) (none_but kG' kN (.head _) (nm1 (by assumption))) (none_but kG' kN (.tail _ (.head _)) (nm1 (by assumption))) (get_snoc kN (.tail _ (.tail _ (.head _)))) ⟨_, _, kN.get (.head _), kN.get (.tail _ (.head _))⟩ (List.Sublist.refl _) ?eq
      case eq => unfold startF; rw [if_neg (by simpa using hc)]
end
end

section
theorem offNpF : True := by w_top off; trivial
theorem wNpF0 : True := by
  k_with_none
  (k_with "np_omega" => (first
      | (with_reducible assumption)
      | omega -splitDisjunctions
      | ((with_reducible show @Ne Nat _ _); with_reducible refine Ne.symm ?_; with_reducible assumption)
      | (refine Nat.le_antisymm ?_ ?_ <;> omega -splitDisjunctions)
      | (refine Int.le_antisymm ?_ ?_ <;> omega -splitDisjunctions)
      | omega +splitDisjunctions))
  (k_with "np_mm" => (first
      | (simp (disch := (first | assumption | exact Int.le_of_lt (by assumption) | exact Int.not_lt.mp (by assumption) | omega)) only [Int.max_eq_right, Int.max_eq_left, Int.min_eq_right, Int.min_eq_left]; done)
      | omega))
  (k_with "np_lt" => (k_dflt (repeat (intro _)); k_dflt (refine Got.mk ?_)))
  (k_with "np_ne" => (first
      | (with_reducible refine Nat.ne_of_lt ?_; with_reducible assumption)
      | (with_reducible refine Nat.ne_of_gt ?_; with_reducible assumption)
      | (with_reducible assumption)
      | (with_reducible refine Ne.symm ?_; with_reducible assumption)
      | (refine neN ?_; (try dsimp only); omega)))
  (k_with "np_mem" => (first
      | ((repeat' (with_reducible first | exact List.Mem.head _ | refine List.Mem.tail _ ?_)); done)
      | (with_reducible assumption)
      | assumption))
  (k_with "ite" => (k_closed; k_dflt (first | refine ite_pos (by decide) ?_ | refine ite_neg (by decide) ?_)))
  (k_with "callWith ref" => (k_here; k_dflt (first | (refine' callWith_K ?k1_q ?k2_q ?_; (case k1_q => k_asm); (case k2_q => k_is); k_whole) | (refine' callWith_K0 ?k1_q ?k2_q ?_; (case k1_q => exact Frag.In.keeps (by k_asm) (Fr.keep (by k_asm))); (case k2_q => k_is); k_whole))))
  (k_with "CompEnd" => (with_reducible refine haltIt ?_))
  (k_with "CompSrc" => (with_reducible refine haltIt ?_))
  (k_with "CompSrcT" => (with_reducible refine haltIt ?_))
  (k_with "np_inst" => (first
      | (refine' InstAt.of_base ?F_q ?h1_q ?h2_q; (case F_q => k_asm); (case h1_q => k_asm); (case h2_q => k_asm))
      | (refine' InstAt.of_mixed ?F_q ?h1_q ?N_q ?h2_q; (case F_q => k_asm); (case h1_q => k_asm); (case N_q => k_asm); (case h2_q => k_mem))))
  (k_with "np_let" => ((try ((with_reducible rename News _ _ _ _ => cN'q); (fail_if_success (have := lacksIt cN'q (by goal_lacks List.cons; exact fun _ => trivial))); refine news_let cN'q ?_; clear cN'q; intro _ cN'q)); (try ((with_reducible rename Fr _ _ _ _ => cF'q); (fail_if_success (have := lacksIt cF'q (by goal_lacks Option.some; exact fun _ => trivial))); refine fr_let cF'q ?_; clear cF'q; intro _ cF'q))))
  (k_with "getItem ref str" => (k_here; (with_reducible show wpAny _ _ (getItem (Value.ref _) (Value.str _ _)) _ _ _); k_dflt (refine kdt_getItem (knd := PySem.strKind _ _) (by k_asm) (by k_mem) (by k_asm) (strKind_is _ _ _ _) (by rfl) ?_)))
  (k_with "execs cons" => (k_here; (try (with_reducible refine gentok ?_; intro _)); walk_at "np_let"; (with_reducible refine wpAny_execs_cons ?_); (try dsimp only); (try k_fold)))
  (k_with "execs nil" => (k_here; with_reducible refine gentok ?_; intro _))
  (k_with "np_handed" => (exact handed_opt _ _))
  (k_with "np_enter" => (case ho => k_dflt k_is); (case hcd => k_dflt k_is); (try (case hr => (first | omega | (dsimp only; omega)))); (case hbind => first | exact BindsTo.of_eq rfl | (refine' binds_K ?bx_q ?b1_q ?b2_q ?b3_q ?b4_q ?b5_q; (case bx_q => assumption); (case b1_q => exact rfl); (case b2_q => k_dflt k_is); (case b3_q => exact rfl); (case b4_q => exact rfl); (case b5_q => exact rfl))); (case hloc => exact locs rfl); (case ha => exact rfl); (case hb => exact rfl); (case hc => exact rfl); (case hd => decide))
  (k_with "np_enterX" => (case ho => k_dflt k_is); (case hcd => k_dflt k_is); (try (case hr => (first | omega | (dsimp only; omega)))); (case hbind => first | exact BindsTo.of_eq rfl | (refine' binds_K ?bx_q ?b1_q ?b2_q ?b3_q ?b4_q ?b5_q; (case bx_q => assumption); (case b1_q => exact rfl); (case b2_q => k_dflt k_is); (case b3_q => exact rfl); (case b4_q => exact rfl); (case b5_q => exact rfl))); (case hkd => exact rfl); (case hnd => decide +kernel); (case ha => exact rfl); (case hb => exact rfl); (case hc => exact rfl))
  trivial
theorem wNpF1 : True := by
  (k_with "call builtin:list.append" => (k_here; (with_reducible show wpAny _ _ (call (Value.builtin _) [Value.ref _, Value.ref _]) _ _ _); k_dflt (refine' append_K ?k1_q ?k2_q ?k3_q ?_ ?z_q; (case k1_q => k_asm); (case k2_q => k_asm); (case k3_q => k_upd); (case z_q => (simp only [refsE, List.size_toArray, List.length_map]; rw [sizeLine_eq]; omega)); k_whole); intro _ _ _; (try k_sweep)))
  trivial
section
theorem fr_but {g h h' : Heap} {L : Addr} {m : Str → Option Value} {M : List Addr} (F : Fr g L h m) (k : KeepBut M h h') (hL : L ∉ M) (hg : ∀ a ∈ M, g.get? a = none) : Fr g L h' m := by
  obtain ⟨oL, a1, a2, hoL, a3⟩ := F.ns
  exact ⟨⟨oL, a1, a2, k _ _ hL hoL, a3⟩, fun b x e => k _ _ (fun hb => by rw [hg b hb] at e; cases e) (F.keep b x e), F.above⟩
theorem fr_but1 {g h h' : Heap} {L d : Addr} {o : Obj} {m : Str → Option Value} {news : List (Addr × Obj)} (F : Fr g L h m) (N : News g L h news) (hm : (d, o) ∈ news) (k : KeepBut [d] h h') : Fr g L h' m :=
  fr_but F k (by simpa using (N _ hm).2.1.symm) (by simpa using (N _ hm).2.2)
theorem news_but {g h h' : Heap} {L d : Addr} {o o' : Obj} {news news' : List (Addr × Obj)} (N : News g L h news) (k : KeepBut [d] h h') (U : Upd d o o' news news') (ho : h'.get? d = some o') : News g L h' news' := by
  obtain ⟨pre, post, rfl, rfl, a, b⟩ := U.split
  intro p hp
  have hd := N (d, o) (by simp)
  rcases List.mem_append.mp hp with h | h
  · have := N p (List.mem_append_left _ h)
    exact ⟨k _ _ (by simpa using a p h) this.1, this.2⟩
  · rcases List.mem_cons.mp h with rfl | h
    · exact ⟨ho, hd.2⟩
    · have := N p (List.mem_append_right _ (.tail _ h))
      exact ⟨k _ _ (by simpa using b p h) this.1, this.2⟩
theorem news_but_add {g h h' : Heap} {L d r : Addr} {o o' o2 : Obj} {m : Str → Option Value} {news news' : List (Addr × Obj)} (F : Fr g L h m) (N : News g L h news) (k : KeepBut [d] h h') (U : Upd d o o' news news') (ho : h'.get? d = some o') (hr : h.get? r = none) (ho2 : h'.get? r = some o2) : News g L h' ((r, o2) :: news') := fun p hp => by
  rcases List.mem_cons.mp hp with rfl | hp
  · refine ⟨ho2, fun e => ?_, ?_⟩
    · obtain ⟨oL, _, _, hL, _⟩ := F.ns
      have e' : r = L := e
      rw [e', hL] at hr
      cases hr
    · cases q : g.get? r with
      | none => rfl
      | some o' => have := F.keep _ _ q; rw [hr] at this; cases this
  · exact news_but N k U ho p hp
theorem esAt_mid {h : Heap} {pre post : List Ent} {x d : Addr} {σ : St} (h1 : EsAt h pre) (h2 : EsAt h post) (hs : StAt h x d σ) : EsAt h (pre ++ (x, d, σ) :: post) := fun e he => by
  rcases List.mem_append.mp he with he | he
  · exact h1 e he
  · rcases List.mem_cons.mp he with rfl | he
    · exact hs
    · exact h2 e he
theorem StAt.inst {h : Heap} {x d : Addr} {σ : St} (s : StAt h x d σ) : h.get? x = some (instObj 98 d) := let ⟨_, _, a, _⟩ := s; a
theorem get_mid {g h : Heap} {L a x d : Addr} {news : List (Addr × Obj)} {pre post : List Ent} {σ τ : St} {k : Nat} (N : News g L h news) (hm : (a, listOf (refsE (pre ++ (x, d, σ) :: post)).toArray k) ∈ news) : h.get? a = some (listOf (refsE (pre ++ (x, d, τ) :: post)).toArray k) := by
  rw [show refsE (pre ++ (x, d, τ) :: post) = refsE (pre ++ (x, d, σ) :: post) by simp [refsE]]; exact N.get hm
theorem refsE_mid (pre post : List Ent) (x d : Addr) (σ τ : St) : refsE (pre ++ (x, d, σ) :: post) = refsE (pre ++ (x, d, τ) :: post) := by simp [refsE]
end
/-- the stream that goes on: behind go and its new far -/
noncomputable def accSt (S : Sc) (σ : St) (b m : Int) : St :=
  let τ := goS { σ with stamp := S.stamp + 1 } b m (wayTo σ b m)
  if σ.way = 0 then τ else { τ with far := min S.greatest (2 * σ.far) }
structure Small (σ : St) : Prop where
  low : 0 ≤ σ.low ∧ σ.low ≤ 1000000
  high : 0 ≤ σ.high ∧ σ.high ≤ 1000000
  far : 0 ≤ σ.far ∧ σ.far ≤ 1000
  reached : ∀ r, σ.reached = some r → -1000000 ≤ r ∧ r ≤ 2000000
theorem up_bounds {B X : Int} (h1 : -1000000 ≤ B ∧ B ≤ 2000000) (h2 : X ≤ B + 1000) : -1000000 ≤ B ∧ B ≤ max B X ∧ max B X ≤ 3000000 ∧ max B X - B ≤ 1000 :=
  have h3 : max B X ≤ B + 1000 := Int.max_le.mpr ⟨by omega, h2⟩
  ⟨h1.1, Int.le_max_left _ _, by omega, by omega⟩
theorem down_bounds {E X : Int} (h1 : -1000000 ≤ E ∧ E ≤ 2000000) (h0 : 0 ≤ X) (h2 : E - 1000 ≤ X) : -1000000 ≤ min E X ∧ min E X ≤ E ∧ E ≤ 3000000 ∧ E - min E X ≤ 1000 :=
  have h3 : E - 1000 ≤ min E X := Int.le_min.mpr ⟨by omega, h2⟩
  ⟨Int.le_min.mpr ⟨h1.1, by omega⟩, Int.min_le_left _ _, by omega, by omega⟩
theorem ahead_bounds {τ : St} {r : Int} {most : Option Int} (h1 : 0 ≤ τ.low ∧ τ.low ≤ 1001000) (h2 : 0 ≤ τ.high ∧ τ.high ≤ 1001000) (h3 : 0 ≤ τ.far ∧ τ.far ≤ 1000) (h4 : -1000000 ≤ r ∧ r ≤ 2000000) :
    -1000000 ≤ aheadB τ r most ∧ aheadB τ r most ≤ aheadE τ r most ∧ aheadE τ r most ≤ 3000000 ∧ aheadE τ r most - aheadB τ r most ≤ 1000 := by
  unfold aheadB aheadE
  by_cases hw : τ.way = 1
  · simp only [hw, if_true]
    have m1 := Int.le_max_left τ.high r
    have m2 := Int.le_max_right τ.high r
    have m3 : max τ.high r ≤ 2000000 := Int.max_le.mpr ⟨by omega, h4.2⟩
    generalize max τ.high r = B at m1 m2 m3 ⊢
    cases most with
    | none => exact up_bounds ⟨by omega, m3⟩ (by (try dsimp only); omega)
    | some q =>
      have m4 := Int.min_le_left (τ.high + τ.far) q
      exact up_bounds ⟨by omega, m3⟩ (by dsimp only; omega)
  · simp only [hw, if_false]
    have m1 := Int.min_le_left τ.low r
    have m3 : -1000000 ≤ min τ.low r := Int.le_min.mpr ⟨by omega, h4.1⟩
    have m4 := Int.le_max_left 0 (τ.low - τ.far)
    have m5 := Int.le_max_right 0 (τ.low - τ.far)
    generalize min τ.low r = B at m1 m3 ⊢
    exact down_bounds ⟨m3, by omega⟩ m4 (by omega)
noncomputable def rOf (σ : St) : Int := σ.reached.getD 0
noncomputable def accBs (τ : St) (most : Option Int) : List Int :=
  let bs := rangeKs (aheadB τ (rOf τ) most) (aheadE τ (rOf τ) most - aheadB τ (rOf τ) most).toNat
  if τ.way = 1 then bs else bs.reverse
theorem accSt_way (S : Sc) (σ : St) (b m : Int) : (accSt S σ b m).way = wayTo σ b m := by unfold accSt; dsimp only; split <;> rfl
theorem accSt_reached {S : Sc} {σ : St} {b m : Int} (hg : σ.way ≠ 0 → σ.reached ≠ none) : ∃ r, (accSt S σ b m).reached = some r := by
  unfold accSt goS
  dsimp only
  by_cases h : σ.way = 0
  · simp only [h, if_true]; exact ⟨_, rfl⟩
  · simp only [h, if_false]
    cases e : σ.reached with
    | none => exact absurd e (hg h)
    | some r => exact ⟨r, rfl⟩
theorem accSt_bounds {S : Sc} {σ : St} {b m : Int} {most : Option Int} (hz : Small σ) (hgr : 0 ≤ S.greatest ∧ S.greatest ≤ 1000) (hb : 0 ≤ b) (hbz : b ≤ 1000000) (hm : 1 ≤ m) (hmz : m ≤ 1000) {r : Int} (hr : (accSt S σ b m).reached = some r) :
    -1000000 ≤ aheadB (accSt S σ b m) r most ∧ aheadB (accSt S σ b m) r most ≤ aheadE (accSt S σ b m) r most ∧ aheadE (accSt S σ b m) r most ≤ 3000000 ∧ aheadE (accSt S σ b m) r most - aheadB (accSt S σ b m) r most ≤ 1000 := by
  obtain ⟨z1, z2, z3, z4⟩ := hz
  refine ahead_bounds ?_ ?_ ?_ ?_
  · unfold accSt goS; dsimp only; split <;> (dsimp only; omega)
  · unfold accSt goS; dsimp only; split <;> (dsimp only; omega)
  · unfold accSt goS; dsimp only; split <;> (dsimp only; omega)
  · unfold accSt goS at hr
    dsimp only at hr
    by_cases h : σ.way = 0
    · simp only [h, if_true, Option.some.injEq] at hr
      split at hr <;> omega
    · simp only [h, if_false] at hr
      exact z4 r hr
section
variable {w : World} {A : Around} {s : Shared} {h₀ : Heap} {Q E : Value → Shared → Prop} {x d : Addr} {σ : St}
theorem nm3 {a b c x : Addr} {o1 o2 o3 : Obj} (h1 : @Ne Nat a x) (h2 : @Ne Nat b x) (h3 : @Ne Nat c x) : x ∉ List.map (fun x : Addr × Obj => x.1) [(a, o1), (b, o2), (c, o3)] := by
  simp only [List.map_cons, List.map_nil, List.mem_cons, List.not_mem_nil, or_false]
  rintro (h | h | h)
  · exact h1 h.symm
  · exact h2 h.symm
  · exact h3 h.symm
theorem accBs_length (τ : St) (most : Option Int) : (accBs τ most).length = (rangeKs (aheadB τ (rOf τ) most) (aheadE τ (rOf τ) most - aheadB τ (rOf τ) most).toNat).length := by
  unfold accBs; dsimp only; split <;> simp
theorem access_some {R dR SL : Addr} {S : Sc} {pre post : List Ent} {nl : Nat} {b m : Int} {most : Option Int} {tb tm ts : Tok} (G : Gr w h₀) (hk : Up h₀ s.heap) (hA : A.handled = none) (hd : A.depth + 8 < recursionLimit) (hu : A.units + 16 < cLine)
    (W : RW s.heap R dR SL S (pre ++ (x, d, σ) :: post) nl) (hlen : (pre ++ (x, d, σ) :: post).length ≤ 50) (hLf : h₀.get? SL = none) (hRf : h₀.get? dR = none) (hdf : h₀.get? d = none)
    (hb : 0 ≤ b) (hm : 1 ≤ m) (hp : ∀ e ∈ pre, wayTo e.2.2 b m = 0) (hw : wayTo σ b m ≠ 0) (hg : σ.way ≠ 0 → σ.reached ≠ none) (hz : Small σ) (hgr : 0 ≤ S.greatest ∧ S.greatest ≤ 1000) (hbz : b ≤ 1000000) (hmz : m ≤ 1000)
    (ret : ∀ h' tk c n vs SL' k, KeepBut [dR, d] s.heap h' → s.heap.get? c = none → s.heap.get? SL' = none → h'.get? c = some (listOf (List.toArray vs) n) → IntsAre vs (accBs (accSt S σ b m) most) →
      (let τ := accSt S σ b m
       RAt h' R dR { S with stamp := S.stamp + 1, hits := S.hits + 1, asked := S.asked + (accBs τ most).length } SL' ∧ StAt h' x d (aheadS τ (rOf τ) most) ∧
       h'.get? SL' = some (listOf (refsE (pre.filter (keepJ τ) ++ (x, d, aheadS τ (rOf τ) most) :: post.filter (keepJ τ))).toArray k)) → Q (.ref c) {s with heap := h', toks := tk}) :
    wpAny (model Pg w) A (call (.ref 143) [.ref R, .int b tb, .int m tm, optV most ts]) Q E s := by
  obtain ⟨ah, ad, af, ag, au⟩ := A
  obtain rfl : ah = none := hA
  dsimp only at hd
  obtain ⟨⟨q, t, hR, hdR⟩, hL, hE, n1, n2, hne⟩ := W
  have hn1 : R ≠ SL := ne_of_cls hR hL (by simp)
  have hn2 : @Ne Nat dR SL := ne_of_cls hdR hL (by simp)
  have hn3 : R ≠ dR := ne_of_cls hR hdR (by simp)
  have hEx : StAt s.heap x d σ := hE (x, d, σ) (by simp)
  obtain ⟨qx, tx, hx, hdx⟩ := id hEx
  have hn4 : @Ne Nat d dR := hne (x, d, σ) (by simp)
  have hn5 : @Ne Nat d SL := ne_of_cls hdx hL (by simp)
  have hn6 : R ≠ d := ne_of_cls hR hdx (by simp)
  have hn7 : x ≠ d := ne_of_cls hx hdx (by simp)
  have hn8 : x ≠ dR := ne_of_cls hx hdR (by simp)
  have hn9 : x ≠ SL := ne_of_cls hx hL (by simp)
  have hX := G.X.keeps hk
  refine' enter (D := [(dR, dictOf (rEs q t S SL) 8), (d, dictOf (sEs qx tx σ) 6), (SL, listOf (refsE (pre ++ (x, d, σ) :: post)).toArray nl)]) (binds := [(Str.ofString "self", .ref R), (Str.ofString "begin", .int b tb), (Str.ofString "many", .int m tm), (Str.ofString "most", optV most ts)]) G hk (List.forall_mem_cons.mpr ⟨⟨hdR, hRf⟩, List.forall_mem_cons.mpr ⟨⟨hdx, hdf⟩, List.forall_mem_singleton.mpr ⟨hL, hLf⟩⟩⟩) ?ho ?hcd ?hr ?hbind ?hloc ?_ ?ha ?hb ?hc ?hd
  walk_at "np_enter"
  intro g' L' h' mean mg mb F' N' X' T' G' kG'
  have hR' := kG' _ _ hR (by simp; exact ⟨hn3, hn6, hn1⟩)
  have hx' := kG' _ _ hx (by simp; exact ⟨hn8, hn7, hn9⟩)
  have hLg : g'.get? SL = none := (N' _ (.tail _ (.tail _ (.head _)))).2.2
  have hdg : g'.get? d = none := (N' _ (.tail _ (.head _))).2.2
  have hRg : g'.get? dR = none := (N' _ (.head _)).2.2
  have hsub : ∀ l : List Ent, (∀ e ∈ l, e ∈ pre ++ (x, d, σ) :: post ∧ e.2.1 ≠ d) → EsAt g' l := fun l hl e he => by
    obtain ⟨hm, hnd⟩ := hl e he
    obtain ⟨q, t, a, b⟩ := hE e hm
    refine ⟨q, t, kG' _ _ a ?_, kG' _ _ b ?_⟩
    · simp; exact ⟨ne_of_cls a hdR (by simp), ne_of_cls a hdx (by simp), ne_of_cls a hL (by simp)⟩
    · simp; exact ⟨hne e hm, hnd, ne_of_cls b hL (by simp)⟩
  rw [List.map_append, List.map_cons, List.nodup_append] at n2
  have hEp : EsAt g' pre := hsub pre fun e he => ⟨by simp [he], fun h => n2.2.2 e.2.1 (List.mem_map_of_mem he) d (.head _) h⟩
  have hEq : EsAt g' post := hsub post fun e he => ⟨by simp [he], fun h => by have := (List.nodup_cons.mp n2.2.1).1; rw [show (x, d, σ).2.1 = d from rfl, ← h] at this; exact this (List.mem_map_of_mem (f := fun e : Ent => e.2.1) he)⟩
  have hfind : findE (pre ++ (x, d, σ) :: post) b m = some (x, d, σ) := by
    unfold findE
    rw [List.find?_append, List.find?_eq_none.mpr (by simpa using hp), List.find?_cons_of_pos (by simpa using hw)]; rfl
  have hlen2 : (pre ++ (x, d, σ) :: post).length ≤ 100 := by omega
  try dsimp only
  k_unmd
  k_fold
  k_steps
  rename Fr _ _ _ _ => cF; rename News _ _ _ _ => cN
  refine found_spec (S := { S with stamp := S.stamp + 1 }) G' (Fr.keep cF) rfl (by simp only [depth_deeper]; omega) (RAt.mk' (cF.keep _ _ hR') (cN.get (.head _))) (cN.get (.tail _ (.tail _ (.head _)))) hLg (esAt_mid (hEp.up cF.keep) (hEq.up cF.keep) ⟨_, _, cF.keep _ _ hx', cN.get (.tail _ (.head _))⟩) fun h1 tk1 c t1 U1 hc ho => ?_
  rw [hfind] at ho
  simp only [foundObj] at ho
  have F1 := cF.keeps U1
  have N1 := news_add cF cN U1 hc ho
  have ne1 := neAll_of cN hc
  (refine neTo ne1 ?_; clear ne1; walk_at "np_lt")
  clear cF cN U1 hc ho
  try dsimp only
  k_steps
  rename Fr _ _ _ _ => cF; rename News _ _ _ _ => cN
  try dsimp only at cN
  refine go_spec (σ := { σ with stamp := S.stamp + 1 }) G' cF.keep rfl (by simp only [depth_deeper]; omega) (StAt.mk' (cF.keep _ _ hx') (cN.get (by k_mem))) hdg fun h2 tk2 S2 K2 => ?_
  obtain ⟨q2, t2, S2, S2'⟩ := S2
  have F2 := fr_but1 (d := d) (o := _) cF cN (by k_mem) K2
  have N2 := news_but cN K2 (by k_upd) S2'
  clear cF cN K2 S2 S2'
  obtain ⟨τ, hτ⟩ : ∃ τ, τ = goS { σ with stamp := S.stamp + 1 } b m (wayTo σ b m) := ⟨_, rfl⟩
  rw [← hτ] at N2
  obtain ⟨r, hr⟩ := accSt_reached (S := S) (b := b) (m := m) hg
  have hbd := accSt_bounds (most := most) hz hgr hb hbz hm hmz hr
  have hrO : rOf (accSt S σ b m) = r := by unfold rOf; rw [hr]; rfl
  have hwy := accSt_way S σ b m
  try dsimp only
  k_steps
  have hacc : σ.way ≠ 0 → accSt S σ b m = ⟨τ.way, τ.low, τ.high, τ.reached, if 2 * τ.far < S.greatest then 2 * τ.far else S.greatest, τ.stamp⟩ := fun hway => by
    unfold accSt; rw [if_neg hway, hτ]; simp only [goS, St.mk.injEq, true_and, and_true]; split <;> omega
  rename Fr _ _ _ _ => cF; rename News _ _ _ _ => cN
  have hst := hacc (by assumption) ▸ StAt.mk' (cF.keep _ _ hx') (cN.get (by k_mem))
  clear hacc
  rotate_left
  have hacc : σ.way = 0 → accSt S σ b m = τ := fun hway => by
    unfold accSt; rw [if_pos hway, hτ]
  rename Fr _ _ _ _ => cF; rename News _ _ _ _ => cN
  have hst : StAt h2 x d τ := ⟨q2, t2, cF.keep _ _ hx', cN.get (by k_mem)⟩
  replace hst := (hacc (by assumption)).symm ▸ hst
  clear hacc
  all_goals (
    obtain ⟨q5, t5, hx5, hd5⟩ := id hst
    have N5 := news_but cN (Up.but Up.refl) (by k_upd) hd5
    clear cN hx5 hd5
    have cN := N5
    clear N5
    refine join_spec G' cF.keep rfl (by simp only [depth_deeper]; omega) (RAt.mk' (cF.keep _ _ hR') (cN.get (by k_mem))) hRg (get_mid (τ := accSt S σ b m) cN (by k_mem)) (by simpa using hlen2) hLg (esAt_mid (hEp.up cF.keep) (hEq.up cF.keep) hst) (List.mem_append_right pre (.head _)) ?_ fun h3 tk3 SL' k3 K3 hn3 hl3 R3 => ?_
    · intro e he
      rcases List.mem_append.mp he with h | h
      · exact ⟨ne_of_cls (hEp.up cF.keep e h).inst (cN.get (by k_mem : (dR, _) ∈ _)) (by simp), hne e (by simp [h])⟩
      · rcases List.mem_cons.mp h with rfl | h
        · exact ⟨hn8, hn4⟩
        · exact ⟨ne_of_cls (hEq.up cF.keep e h).inst (cN.get (by k_mem : (dR, _) ∈ _)) (by simp), hne e (by simp [h])⟩
    obtain ⟨q3, t3, -, R3⟩ := R3
    have F3 := fr_but1 (d := dR) (o := _) cF cN (by k_mem) K3
    have N3 := news_but_add cF cN K3 (by k_upd) R3 hn3 hl3
    have ne3 := neAll_of cN hn3
    (refine neTo ne3 ?_; clear ne3; walk_at "np_lt")
    clear cF cN K3 R3 hn3 hl3 hst
    try dsimp only
    k_steps
    rename Fr _ _ _ _ => cF; rename News _ _ _ _ => cN
    refine ahead_of_spec (σ := accSt S σ b m) (r := r) G' cF.keep rfl (by simp only [depth_deeper]; omega) ⟨q5, t5, cF.keep _ _ hx', cN.get (by k_mem)⟩ hr hdg fun h4 tk4 c4 u1 u2 S4 K4 hn4 hc4 => ?_
    obtain ⟨q6, t6, -, S4⟩ := S4
    have F4 := fr_but1 (d := d) (o := _) cF cN (by k_mem) K4
    have N4 := news_but_add cF cN K4 (by k_upd) S4 hn4 hc4
    have ne4 := neAll_of cN hn4
    (refine neTo ne4 ?_; clear ne4; walk_at "np_lt")
    clear cF cN K4 S4 hn4 hc4
    obtain ⟨B, hB⟩ : ∃ B, B = aheadB (accSt S σ b m) r most := ⟨_, rfl⟩
    obtain ⟨E', hE'⟩ : ∃ B, B = aheadE (accSt S σ b m) r most := ⟨_, rfl⟩
    rw [← hB, ← hE'] at hbd N4
    try dsimp only
    k_steps
    all_goals (
      rename Fr _ _ _ _ => kF; rename News _ _ _ _ => kN
      have hkb := keepBut_news (M := [dR, d]) kG' kF kN (List.forall_mem_cons.mpr ⟨hdR, List.forall_mem_cons.mpr ⟨hdx, List.forall_mem_singleton.mpr hL⟩⟩) (List.forall_mem_cons.mpr ⟨.inl (by simp), List.forall_mem_cons.mpr ⟨.inl (by simp), List.forall_mem_singleton.mpr (.inr (by k_mem))⟩⟩)
      have hlb := accBs_length (accSt S σ b m) most
      rw [hrO, ← hB, ← hE'] at hlb
      have hlist : refsE (pre.filter (keepJ (accSt S σ b m)) ++ (x, d, aheadS (accSt S σ b m) r most) :: post.filter (keepJ (accSt S σ b m))) = refsE (List.filter (keepJ (accSt S σ b m)) (pre ++ (x, d, accSt S σ b m) :: post)) := by
        rw [List.filter_append, List.filter_cons_of_pos (by simp [keepJ])]; simp [refsE]
      refine ret _ _ _ _ _ SL' k3 hkb (none_but kG' kN (.head _) (nm3 (by omega) (by omega) (by omega))) ?_ (kN.get (.head _)) ?_ ⟨?_, ?_, ?_⟩
      · exact none_but kG' kN (by k_mem) (nm3 (by omega) (by omega) (by omega))
      · unfold accBs
        rw [hrO, ← hB, ← hE', hwy]
        first
          | (rw [if_pos (by assumption)]; assumption)
          | (rw [if_neg (by assumption)]; assumption)
      · rw [hlb]; exact RAt.mk' (kF.keep _ _ hR') (kN.get (by k_mem))
      · rw [hrO]; exact ⟨q6, t6, kF.keep _ _ hx', kN.get (by k_mem)⟩
      · rw [hrO, hlist]; exact kN.get (by k_mem)))
end
end

section
theorem wNpG0 : True := by
  k_with_none
  (k_with "np_omega" => (first
      | (with_reducible assumption)
      | omega -splitDisjunctions
      | ((with_reducible show @Ne Nat _ _); with_reducible refine Ne.symm ?_; with_reducible assumption)
      | (refine Nat.le_antisymm ?_ ?_ <;> omega -splitDisjunctions)
      | (refine Int.le_antisymm ?_ ?_ <;> omega -splitDisjunctions)
      | omega +splitDisjunctions))
  (k_with "np_mm" => (first
      | (simp (disch := (first | assumption | exact Int.le_of_lt (by assumption) | exact Int.not_lt.mp (by assumption) | omega)) only [Int.max_eq_right, Int.max_eq_left, Int.min_eq_right, Int.min_eq_left]; done)
      | omega))
  (k_with "np_lt" => (k_dflt (repeat (intro _)); k_dflt (refine Got.mk ?_)))
  (k_with "np_ne" => (first
      | (with_reducible refine Nat.ne_of_lt ?_; with_reducible assumption)
      | (with_reducible refine Nat.ne_of_gt ?_; with_reducible assumption)
      | (with_reducible assumption)
      | (with_reducible refine Ne.symm ?_; with_reducible assumption)
      | (refine neN ?_; (try dsimp only); omega)))
  (k_with "np_mem" => (first
      | ((repeat' (with_reducible first | exact List.Mem.head _ | refine List.Mem.tail _ ?_)); done)
      | (with_reducible assumption)
      | assumption))
  (k_with "ite" => (k_closed; k_dflt (first | refine ite_pos (by decide) ?_ | refine ite_neg (by decide) ?_)))
  (k_with "callWith ref" => (k_here; k_dflt (first | (refine' callWith_K ?k1_q ?k2_q ?_; (case k1_q => k_asm); (case k2_q => k_is); k_whole) | (refine' callWith_K0 ?k1_q ?k2_q ?_; (case k1_q => exact Frag.In.keeps (by k_asm) (Fr.keep (by k_asm))); (case k2_q => k_is); k_whole))))
  (k_with "CompEnd" => (with_reducible refine haltIt ?_))
  (k_with "CompSrc" => (with_reducible refine haltIt ?_))
  (k_with "CompSrcT" => (with_reducible refine haltIt ?_))
  (k_with "np_inst" => (first
      | (refine' InstAt.of_base ?F_q ?h1_q ?h2_q; (case F_q => k_asm); (case h1_q => k_asm); (case h2_q => k_asm))
      | (refine' InstAt.of_mixed ?F_q ?h1_q ?N_q ?h2_q; (case F_q => k_asm); (case h1_q => k_asm); (case N_q => k_asm); (case h2_q => k_mem))))
  (k_with "execs cons" => (k_here; (try (with_reducible refine gentok ?_; intro _)); (with_reducible refine wpAny_execs_cons ?_); (try dsimp only); (try k_fold)))
  (k_with "execs nil" => (k_here; with_reducible refine gentok ?_; intro _))
  (k_with "np_handed" => (exact handed_opt _ _))
  (k_with "np_enter" => (case ho => k_dflt k_is); (case hcd => k_dflt k_is); (try (case hr => (first | omega | (dsimp only; omega)))); (case hbind => first | exact BindsTo.of_eq rfl | (refine' binds_K ?bx_q ?b1_q ?b2_q ?b3_q ?b4_q ?b5_q; (case bx_q => assumption); (case b1_q => exact rfl); (case b2_q => k_dflt k_is); (case b3_q => exact rfl); (case b4_q => exact rfl); (case b5_q => exact rfl))); (case hloc => exact locs rfl); (case ha => exact rfl); (case hb => exact rfl); (case hc => exact rfl); (case hd => decide))
  (k_with "np_enterX" => (case ho => k_dflt k_is); (case hcd => k_dflt k_is); (try (case hr => (first | omega | (dsimp only; omega)))); (case hbind => first | exact BindsTo.of_eq rfl | (refine' binds_K ?bx_q ?b1_q ?b2_q ?b3_q ?b4_q ?b5_q; (case bx_q => assumption); (case b1_q => exact rfl); (case b2_q => k_dflt k_is); (case b3_q => exact rfl); (case b4_q => exact rfl); (case b5_q => exact rfl))); (case hkd => exact rfl); (case hnd => decide +kernel); (case ha => exact rfl); (case hb => exact rfl); (case hc => exact rfl))
  trivial
section
variable {w : World} {A : Around} {s : Shared} {h₀ : Heap} {Q E : Value → Shared → Prop} {x d : Addr} {σ : St}
theorem nm2 {a b x : Addr} {o1 o2 : Obj} (h1 : @Ne Nat a x) (h2 : @Ne Nat b x) : x ∉ List.map (fun x : Addr × Obj => x.1) [(a, o1), (b, o2)] := by
  simp only [List.map_cons, List.map_nil, List.mem_cons, List.not_mem_nil, or_false]
  rintro (h | h)
  · exact h1 h.symm
  · exact h2 h.symm

end
end

section
theorem offNpG2 : True := by w_top off; trivial
theorem wNpG20 : True := by
  k_with_none
  (k_with "np_omega" => (first
      | (with_reducible assumption)
      | omega -splitDisjunctions
      | ((with_reducible show @Ne Nat _ _); with_reducible refine Ne.symm ?_; with_reducible assumption)
      | (refine Nat.le_antisymm ?_ ?_ <;> omega -splitDisjunctions)
      | (refine Int.le_antisymm ?_ ?_ <;> omega -splitDisjunctions)
      | omega +splitDisjunctions))
  (k_with "np_mm" => (first
      | (simp (disch := (first | assumption | exact Int.le_of_lt (by assumption) | exact Int.not_lt.mp (by assumption) | omega)) only [Int.max_eq_right, Int.max_eq_left, Int.min_eq_right, Int.min_eq_left]; done)
      | omega))
  (k_with "np_lt" => (k_dflt (repeat (intro _)); k_dflt (refine Got.mk ?_)))
  (k_with "np_ne" => (first
      | (with_reducible refine Nat.ne_of_lt ?_; with_reducible assumption)
      | (with_reducible refine Nat.ne_of_gt ?_; with_reducible assumption)
      | (with_reducible assumption)
      | (with_reducible refine Ne.symm ?_; with_reducible assumption)
      | (refine neN ?_; (try dsimp only); omega)))
  (k_with "np_mem" => (first
      | ((repeat' (with_reducible first | exact List.Mem.head _ | refine List.Mem.tail _ ?_)); done)
      | (with_reducible assumption)
      | assumption))
  (k_with "ite" => (k_closed; k_dflt (first | refine ite_pos (by decide) ?_ | refine ite_neg (by decide) ?_)))
  (k_with "callWith ref" => (k_here; k_dflt (first | (refine' callWith_K ?k1_q ?k2_q ?_; (case k1_q => k_asm); (case k2_q => k_is); k_whole) | (refine' callWith_K0 ?k1_q ?k2_q ?_; (case k1_q => exact Frag.In.keeps (by k_asm) (Fr.keep (by k_asm))); (case k2_q => k_is); k_whole))))
  (k_with "CompEnd" => (with_reducible refine haltIt ?_))
  (k_with "CompSrc" => (with_reducible refine haltIt ?_))
  (k_with "CompSrcT" => (with_reducible refine haltIt ?_))
  (k_with "np_inst" => (first
      | (refine' InstAt.of_base ?F_q ?h1_q ?h2_q; (case F_q => k_asm); (case h1_q => k_asm); (case h2_q => k_asm))
      | (refine' InstAt.of_mixed ?F_q ?h1_q ?N_q ?h2_q; (case F_q => k_asm); (case h1_q => k_asm); (case N_q => k_asm); (case h2_q => k_mem))))
  (k_with "np_let" => ((try ((with_reducible rename News _ _ _ _ => cN'q); (fail_if_success (have := lacksIt cN'q (by goal_lacks List.cons; exact fun _ => trivial))); refine news_let cN'q ?_; clear cN'q; intro _ cN'q)); (try ((with_reducible rename Fr _ _ _ _ => cF'q); (fail_if_success (have := lacksIt cF'q (by goal_lacks Option.some; exact fun _ => trivial))); refine fr_let cF'q ?_; clear cF'q; intro _ cF'q))))
  (k_with "getItem ref str" => (k_here; (with_reducible show wpAny _ _ (getItem (Value.ref _) (Value.str _ _)) _ _ _); k_dflt (refine kdt_getItem (knd := PySem.strKind _ _) (by k_asm) (by k_mem) (by k_asm) (strKind_is _ _ _ _) (by rfl) ?_)))
  (k_with "execs cons" => (k_here; (try (with_reducible refine gentok ?_; intro _)); walk_at "np_let"; (with_reducible refine wpAny_execs_cons ?_); (try dsimp only); (try k_fold)))
  (k_with "execs nil" => (k_here; with_reducible refine gentok ?_; intro _))
  (k_with "np_handed" => (exact handed_opt _ _))
  (k_with "np_enter" => (case ho => k_dflt k_is); (case hcd => k_dflt k_is); (try (case hr => (first | omega | (dsimp only; omega)))); (case hbind => first | exact BindsTo.of_eq rfl | (refine' binds_K ?bx_q ?b1_q ?b2_q ?b3_q ?b4_q ?b5_q; (case bx_q => assumption); (case b1_q => exact rfl); (case b2_q => k_dflt k_is); (case b3_q => exact rfl); (case b4_q => exact rfl); (case b5_q => exact rfl))); (case hloc => exact locs rfl); (case ha => exact rfl); (case hb => exact rfl); (case hc => exact rfl); (case hd => decide))
  (k_with "np_enterX" => (case ho => k_dflt k_is); (case hcd => k_dflt k_is); (try (case hr => (first | omega | (dsimp only; omega)))); (case hbind => first | exact BindsTo.of_eq rfl | (refine' binds_K ?bx_q ?b1_q ?b2_q ?b3_q ?b4_q ?b5_q; (case bx_q => assumption); (case b1_q => exact rfl); (case b2_q => k_dflt k_is); (case b3_q => exact rfl); (case b4_q => exact rfl); (case b5_q => exact rfl))); (case hkd => exact rfl); (case hnd => decide +kernel); (case ha => exact rfl); (case hb => exact rfl); (case hc => exact rfl))
  trivial
section
variable {w : World} {A : Around} {s : Shared} {h₀ : Heap} {Q E : Value → Shared → Prop} {x d : Addr} {σ : St}
theorem news_but_add2 {g h h' : Heap} {L d r r2 : Addr} {o o' o2 o3 : Obj} {m : Str → Option Value} {news news' : List (Addr × Obj)} (F : Fr g L h m) (N : News g L h news) (k : KeepBut [d] h h') (U : Upd d o o' news news') (ho : h'.get? d = some o') (hr : h.get? r = none) (hr2 : h.get? r2 = none) (ho2 : h'.get? r = some o2) (ho3 : h'.get? r2 = some o3) : News g L h' ((r, o2) :: (r2, o3) :: news') := fun p hp => by
  rcases List.mem_cons.mp hp with rfl | hp
  · exact news_but_add F N k U ho hr ho2 _ (.head _)
  · exact news_but_add F N k U ho hr2 ho3 _ hp
theorem access_none {R dR SL : Addr} {S : Sc} {es : List Ent} {nl : Nat} {b m : Int} {most : Option Int} {tb tm ts : Tok} (G : Gr w h₀) (hk : Up h₀ s.heap) (hA : A.handled = none) (hd : A.depth + 8 < recursionLimit) (hu : A.units + 16 < cLine)
    (W : RW s.heap R dR SL S es nl) (hlen : es.length ≤ 50) (hmany : 1 ≤ S.many) (hLf : h₀.get? SL = none) (hRf : h₀.get? dR = none)
    (hb : 0 ≤ b) (hm : 1 ≤ m) (hf : findE es b m = none)
    (rk : (es.any fun e => hasB e.2.2 b m) = true → ∀ h' tk c n, KeepBut [dR] s.heap h' → s.heap.get? c = none → h'.get? c = some (listOf #[] n) → RAt h' R dR { S with stamp := S.stamp + 1 } SL → Q (.ref c) {s with heap := h', toks := tk})
    (ret : (es.any fun e => hasB e.2.2 b m) = false → ∀ h' tk c n es' k x d, KeepBut [dR, SL] s.heap h' → s.heap.get? c = none → h'.get? c = some (listOf #[] n) → RAt h' R dR { S with stamp := S.stamp + 1, misses := S.misses + 1 } SL →
      s.heap.get? x = none → s.heap.get? d = none → h'.get? SL = some (listOf (refsE (es' ++ [(x, d, ⟨0, b, b + m, none, S.least, S.stamp + 1⟩)])).toArray k) → StAt h' x d ⟨0, b, b + m, none, S.least, S.stamp + 1⟩ → List.Sublist es' es → es'.map (·.2.2) = startF S.many (es.map (·.2.2)) → Q (.ref c) {s with heap := h', toks := tk}) :
    wpAny (model Pg w) A (call (.ref 143) [.ref R, .int b tb, .int m tm, optV most ts]) Q E s := by
  obtain ⟨ah, ad, af, ag, au⟩ := A
  obtain rfl : ah = none := hA
  dsimp only at hd hu
  obtain ⟨⟨q, t, hR, hdR⟩, hL, hE, n1, n2, hne⟩ := W
  have hn1 : R ≠ SL := ne_of_cls hR hL (by simp)
  have hn2 : @Ne Nat dR SL := ne_of_cls hdR hL (by simp)
  have hn3 : R ≠ dR := ne_of_cls hR hdR (by simp)
  have hX := G.X.keeps hk
  refine' enter (D := [(dR, dictOf (rEs q t S SL) 8), (SL, listOf (refsE es).toArray nl)]) (binds := [(Str.ofString "self", .ref R), (Str.ofString "begin", .int b tb), (Str.ofString "many", .int m tm), (Str.ofString "most", optV most ts)]) G hk (List.forall_mem_cons.mpr ⟨⟨hdR, hRf⟩, List.forall_mem_singleton.mpr ⟨hL, hLf⟩⟩) ?ho ?hcd ?hr ?hbind ?hloc ?_ ?ha ?hb ?hc ?hd
  walk_at "np_enter"
  intro g' L' h' mean mg mb F' N' X' T' G' kG'
  have hR' := kG' _ _ hR (by simp; exact ⟨hn3, hn1⟩)
  have hLg : g'.get? SL = none := (N' _ (.tail _ (.head _))).2.2
  have hEg : EsAt g' es := fun e he => by
    obtain ⟨q, t, a, b⟩ := hE e he
    refine ⟨q, t, kG' _ _ a ?_, kG' _ _ b ?_⟩
    · simp; exact ⟨ne_of_cls a hdR (by simp), ne_of_cls a hL (by simp)⟩
    · simp; exact ⟨hne e he, ne_of_cls b hL (by simp)⟩
  have hlen2 : es.length ≤ 100 := by omega
  try dsimp only
  k_unmd
  k_fold
  k_steps
  rename Fr _ _ _ _ => cF; rename News _ _ _ _ => cN
  refine found_spec (S := { S with stamp := S.stamp + 1 }) G' (Fr.keep cF) rfl (by simp only [depth_deeper]; omega) (RAt.mk' (cF.keep _ _ hR') (cN.get (.head _))) (cN.get (.tail _ (.head _))) hLg (hEg.up cF.keep) fun h1 tk1 c t1 U1 hc ho => ?_
  rw [hf] at ho
  simp only [foundObj] at ho
  have F1 := cF.keeps U1
  have N1 := news_add cF cN U1 hc ho
  have ne1 := neAll_of cN hc
  (refine neTo ne1 ?_; clear ne1; walk_at "np_lt")
  clear cF cN U1 hc ho
  try dsimp only
  k_steps
  rename Fr _ _ _ _ => cF; rename News _ _ _ _ => cN
  refine is_known_spec (S := { S with stamp := S.stamp + 1 }) G' (Fr.keep cF) rfl (by simp only [depth_deeper]; omega) (RAt.mk' (cF.keep _ _ hR') (cN.get (by k_mem))) (cN.get (by k_mem)) hlen2 hLg (hEg.up cF.keep) fun h2 tk2 U2 => ?_
  cases hkn : es.any fun e => hasB e.2.2 b m with
  | true =>
    replace rk := rk hkn
    clear ret
    have F2 := cF.keeps U2
    have N2 := cN.grown U2
    clear cF cN U2
    try dsimp only
    k_steps
    rename Fr _ _ _ _ => kF; rename News _ _ _ _ => kN
    have hkb := keepBut_news (M := [dR]) kG' kF kN (List.forall_mem_cons.mpr ⟨hdR, List.forall_mem_singleton.mpr hL⟩) (List.forall_mem_cons.mpr ⟨.inl (by simp), List.forall_mem_singleton.mpr (.inr (by k_mem))⟩)
    refine rk _ _ _ _ hkb (none_but kG' kN (.head _) (nm2 (by omega) (by omega))) (kN.get (.head _)) (RAt.mk' (kF.keep _ _ hR') (kN.get (by k_mem)))
  | false =>
    replace ret := ret hkn
    clear rk
    have F2 := cF.keeps U2
    have N2 := cN.grown U2
    clear cF cN U2
    try dsimp only
    k_steps
    rename Fr _ _ _ _ => cF; rename News _ _ _ _ => cN
    have hRW : RW _ R dR SL { S with stamp := S.stamp + 1, misses := S.misses + 1 } es nl := ⟨RAt.mk' (cF.keep _ _ hR') (cN.get (by k_mem)), cN.get (by k_mem), hEg.up cF.keep, n1, n2, hne⟩
    refine start_spec G' cF.keep rfl (by simp only [depth_deeper]; omega) (by simp only [units_deeper]; omega) hRW hlen hmany hLg fun h3 tk3 es' k3 x3 d3 K3 hx3 hd3 hl3 S3 hsub hst => ?_
    obtain ⟨q3, t3, S3, S3'⟩ := S3
    have F3 := fr_but1 (d := SL) (o := _) cF cN (by k_mem) K3
    have N3 := news_but_add2 cF cN K3 (by k_upd) hl3 hx3 hd3 S3 S3'
    have nx := neAll_of cN hx3
    have nd := neAll_of cN hd3
    (refine neTo nx ?_; clear nx; walk_at "np_lt"); (refine neTo nd ?_; clear nd; walk_at "np_lt")
    clear cF cN K3 hl3 hx3 hd3 S3 S3' hRW
    try dsimp only
    k_steps
    rename Fr _ _ _ _ => kF; rename News _ _ _ _ => kN
    have hkb := keepBut_news (M := [dR, SL]) kG' kF kN (List.forall_mem_cons.mpr ⟨hdR, List.forall_mem_singleton.mpr hL⟩) (List.forall_mem_cons.mpr ⟨.inl (by simp), List.forall_mem_singleton.mpr (.inl (by simp))⟩)
    refine ret _ _ _ _ es' k3 x3 d3 hkb (none_but kG' kN (.head _) (nm2 (by omega) (by omega))) (kN.get (.head _)) (RAt.mk' (kF.keep _ _ hR') (kN.get (by k_mem)))
      (none_but kG' kN (by k_mem : (x3, instObj 98 d3) ∈ _) (nm2 (by omega) (by omega))) (none_but kG' kN (o := _) (by k_mem : (d3, dictOf (sEs q3 t3 _) 6) ∈ _) (nm2 (by omega) (by omega))) (kN.get (by k_mem)) ⟨q3, t3, kN.get (by k_mem), kN.get (by k_mem)⟩ hsub hst
end
end

section
theorem offNpH : True := by w_top off; trivial
theorem wNpH0 : True := by
  k_with_none
  (k_with "np_omega" => (first
      | (with_reducible assumption)
      | omega -splitDisjunctions
      | ((with_reducible show @Ne Nat _ _); with_reducible refine Ne.symm ?_; with_reducible assumption)
      | (refine Nat.le_antisymm ?_ ?_ <;> omega -splitDisjunctions)
      | (refine Int.le_antisymm ?_ ?_ <;> omega -splitDisjunctions)
      | omega +splitDisjunctions))
  (k_with "np_mm" => (first
      | (simp (disch := (first | assumption | exact Int.le_of_lt (by assumption) | exact Int.not_lt.mp (by assumption) | omega)) only [Int.max_eq_right, Int.max_eq_left, Int.min_eq_right, Int.min_eq_left]; done)
      | omega))
  (k_with "np_lt" => (k_dflt (repeat (intro _)); k_dflt (refine Got.mk ?_)))
  (k_with "np_ne" => (first
      | (with_reducible refine Nat.ne_of_lt ?_; with_reducible assumption)
      | (with_reducible refine Nat.ne_of_gt ?_; with_reducible assumption)
      | (with_reducible assumption)
      | (with_reducible refine Ne.symm ?_; with_reducible assumption)
      | (refine neN ?_; (try dsimp only); omega)))
  (k_with "np_mem" => (first
      | ((repeat' (with_reducible first | exact List.Mem.head _ | refine List.Mem.tail _ ?_)); done)
      | (with_reducible assumption)
      | assumption))
  (k_with "ite" => (k_closed; k_dflt (first | refine ite_pos (by decide) ?_ | refine ite_neg (by decide) ?_)))
  (k_with "callWith ref" => (k_here; k_dflt (first | (refine' callWith_K ?k1_q ?k2_q ?_; (case k1_q => k_asm); (case k2_q => k_is); k_whole) | (refine' callWith_K0 ?k1_q ?k2_q ?_; (case k1_q => exact Frag.In.keeps (by k_asm) (Fr.keep (by k_asm))); (case k2_q => k_is); k_whole))))
  (k_with "CompEnd" => (with_reducible refine haltIt ?_))
  (k_with "CompSrc" => (with_reducible refine haltIt ?_))
  (k_with "CompSrcT" => (with_reducible refine haltIt ?_))
  (k_with "np_inst" => (first
      | (refine' InstAt.of_base ?F_q ?h1_q ?h2_q; (case F_q => k_asm); (case h1_q => k_asm); (case h2_q => k_asm))
      | (refine' InstAt.of_mixed ?F_q ?h1_q ?N_q ?h2_q; (case F_q => k_asm); (case h1_q => k_asm); (case N_q => k_asm); (case h2_q => k_mem))))
  (k_with "execs cons" => (k_here; (try (with_reducible refine gentok ?_; intro _)); (with_reducible refine wpAny_execs_cons ?_); (try dsimp only); (try k_fold)))
  (k_with "execs nil" => (k_here; with_reducible refine gentok ?_; intro _))
  (k_with "exec Assign cons ListComp" => (walk_at "exec Assign"))
  (k_with "np_handed" => (exact handed_opt _ _))
  (k_with "np_enter" => (case ho => k_dflt k_is); (case hcd => k_dflt k_is); (try (case hr => (first | omega | (dsimp only; omega)))); (case hbind => first | exact BindsTo.of_eq rfl | (refine' binds_K ?bx_q ?b1_q ?b2_q ?b3_q ?b4_q ?b5_q; (case bx_q => assumption); (case b1_q => exact rfl); (case b2_q => k_dflt k_is); (case b3_q => exact rfl); (case b4_q => exact rfl); (case b5_q => exact rfl))); (case hloc => exact locs rfl); (case ha => exact rfl); (case hb => exact rfl); (case hc => exact rfl); (case hd => decide))
  (k_with "np_enterX" => (case ho => k_dflt k_is); (case hcd => k_dflt k_is); (try (case hr => (first | omega | (dsimp only; omega)))); (case hbind => first | exact BindsTo.of_eq rfl | (refine' binds_K ?bx_q ?b1_q ?b2_q ?b3_q ?b4_q ?b5_q; (case bx_q => assumption); (case b1_q => exact rfl); (case b2_q => k_dflt k_is); (case b3_q => exact rfl); (case b4_q => exact rfl); (case b5_q => exact rfl))); (case hkd => exact rfl); (case hnd => decide +kernel); (case ha => exact rfl); (case hb => exact rfl); (case hc => exact rfl))
  trivial
theorem wNpH1 : True := by
  (k_with "pyIter ref" => (with_reducible refine haltIt ?_))
  (k_with "np_all" => (assumption))
  (k_with "eval ListComp" => (k_here; first | (lct_look; k_dflt (refine LCt.ListComp_T (F₀ := by k_asm) (by with_unfolding_all rfl) (by decide) (by rfl) (by decide) (by rfl) ?_)) | ((with_reducible show wpAny _ _ (eval (Expr.ListComp _ [Comprehension.mk _ _ [] _] _ _) _) _ _ _); k_dflt (refine LCg.ListComp_U (F₀ := by k_asm) (by with_unfolding_all rfl) (by decide) (by rfl) (by decide) (by rfl) ?_))))
  trivial
section
variable {w : World} {A : Around} {s : Shared} {h₀ : Heap} {Q E : Value → Shared → Prop} {x d : Addr} {σ : St}
/-- the streams' dicts as they lie -/
noncomputable def grabD (h : Heap) (es : List Ent) : List (Addr × Obj) := es.map fun e => (e.2.1, (h.get? e.2.1).getD default)
theorem grabD_mem {h : Heap} {es : List Ent} (hE : EsAt h es) : ∀ q ∈ grabD h es, h.get? q.1 = some q.2 ∧ ∃ e ∈ es, q.1 = e.2.1 := fun q hq => by
  obtain ⟨e, he, rfl⟩ := List.mem_map.mp hq
  obtain ⟨q, t, a, b⟩ := hE e he
  exact ⟨by dsimp only; rw [b]; rfl, e, he, rfl⟩
theorem grabD_has {h : Heap} {es : List Ent} (hE : EsAt h es) {e : Ent} (he : e ∈ es) : ∃ q t, (e.2.1, dictOf (sEs q t e.2.2) 6) ∈ grabD h es := by
  obtain ⟨q, t, a, b⟩ := hE e he
  exact ⟨q, t, List.mem_map.mpr ⟨e, he, by rw [b]; rfl⟩⟩
/-- the streams' dicts on a ledger -/
noncomputable def EsIn (n : List (Addr × Obj)) (es : List Ent) : Prop := ∀ e ∈ es, ∃ q t, (e.2.1, dictOf (sEs q t e.2.2) 6) ∈ n
noncomputable def cutS (most : Int) (σ : St) : St := if σ.way = 1 then { σ with reached := σ.reached.map (min · most) } else σ
noncomputable def cutE (most : Int) (e : Ent) : Ent := (e.1, e.2.1, cutS most e.2.2)
/-- a loop over a list of the ledger's that stores the names given, by what holds (J) of what is left and the ledger -/
theorem loop_listJ {prog : Program} {w : World} {A : Around} {E : Value → Shared → Prop} {s : Shared} {env : Env} {g : Heap} {x : Str} {body : List Stmt} {Q : Flow → Shared → Prop} {α : Type} {f : α → Value} {l : List α} (stored : List Str) (J : List α → List (Addr × Obj) → Prop) {ax : Addr} {lo : Obj} {n : Nat} {m₀ : Str → Option Value} {news : List (Addr × Obj)} {L : Addr} (hL : env.locals = L)
    (hh : A.handled = none) (F : Fr g L s.heap m₀) (N : News g L s.heap news) (hm : (ax, lo) ∈ news) (hc : lo.cls = .type "list") (hd : lo.data = .seq (l.map f).toArray n)
    (hx : stored.contains x = true) (h0 : J l news)
    (nil : ∀ (m : Str → Option Value) n h tk, J [] n → Fr g L h (fun y => if stored.contains y = true then m y else m₀ y) → News g L h n → Q .next { s with heap := h, toks := tk })
    (cons : ∀ a r (m : Str → Option Value) n I it h tk, (∀ p ∈ news, p.1 < I) → J (a :: r) n → it.cls = .type "list_iterator" → Fr g L h (fun y => if y = x then some (f a) else if stored.contains y = true then m y else m₀ y) → News g L h ((I, it) :: n) →
      wpAny (model prog w) A (execs body env) (UnrPost g L { s with heap := h, toks := tk } I it (fun m' n' => (ax, lo) ∈ n' ∧ J r n' ∧ ∀ y, stored.contains y = false → m' y = m₀ y) Q) E { s with heap := h, toks := tk }) :
    wpAny (model prog w) A (pyIter (.ref ax)) (fun it s₂ => LoopAtV prog w A g env x body Q E it s₂) E s :=
  loop_list (f := f) (fun r m' n' => J r n' ∧ ∀ y, stored.contains y = false → m' y = m₀ y) hL hh F N hm hc hd ⟨h0, fun _ _ => rfl⟩
    (fun m n h tk p F' N' => nil m n h tk p.1 (fr_stored F' p.2) N')
    (fun a r m n I it h tk hI p hit F' N' => cons a r m n I it h tk hI p.1 hit (fr_storedX F' p.2 hx) N')
/-- a stream's dict on a ledger -/
noncomputable def DIn (n : List (Addr × Obj)) (d : Addr) (σ : St) : Prop := ∃ q t, (d, dictOf (sEs q t σ) 6) ∈ n
theorem DIn.mk' {n : List (Addr × Obj)} {d : Addr} {h0 h1 h2 h3 h4 h5 : Int} {k0 k1 k2 k3 k4 k5 t0 t1 t2 t3 t4 t5 : Tok} {w l hi f st : Int} {r : Option Int}
    (hd : (d, dictOf [⟨h0, .str (Str.ofString "way") k0, .int w t0⟩, ⟨h1, .str (Str.ofString "low") k1, .int l t1⟩, ⟨h2, .str (Str.ofString "high") k2, .int hi t2⟩, ⟨h3, .str (Str.ofString "reached") k3, optV r t3⟩, ⟨h4, .str (Str.ofString "far") k4, .int f t4⟩, ⟨h5, .str (Str.ofString "stamp") k5, .int st t5⟩] 6) ∈ n) :
    DIn n d ⟨w, l, hi, r, f, st⟩ :=
  ⟨fun i => match i with | 0 => (h0, k0) | 1 => (h1, k1) | 2 => (h2, k2) | 3 => (h3, k3) | 4 => (h4, k4) | _ => (h5, k5), fun i => match i with | 0 => t0 | 1 => t1 | 2 => t2 | 3 => t3 | 4 => t4 | _ => t5, hd⟩
theorem DIn.mkS {n : List (Addr × Obj)} {d : Addr} {h0 h1 h2 h3 h4 h5 : Int} {k0 k1 k2 k3 k4 k5 t0 t1 t2 t3 t4 t5 : Tok} {w l hi f st r : Int}
    (hd : (d, dictOf [⟨h0, .str (Str.ofString "way") k0, .int w t0⟩, ⟨h1, .str (Str.ofString "low") k1, .int l t1⟩, ⟨h2, .str (Str.ofString "high") k2, .int hi t2⟩, ⟨h3, .str (Str.ofString "reached") k3, .int r t3⟩, ⟨h4, .str (Str.ofString "far") k4, .int f t4⟩, ⟨h5, .str (Str.ofString "stamp") k5, .int st t5⟩] 6) ∈ n) :
    DIn n d ⟨w, l, hi, some r, f, st⟩ := DIn.mk' (r := some r) hd
theorem DIn.mono {n n' : List (Addr × Obj)} {d : Addr} {σ : St} (h : DIn n d σ) (hs : ∀ p ∈ n, p ∈ n') : DIn n' d σ := let ⟨q, t, a⟩ := h; ⟨q, t, hs _ a⟩
theorem EsIn.split {n : List (Addr × Obj)} {e : Ent} {es : List Ent} (h : EsIn n (e :: es)) : ∃ q t, (e.2.1, dictOf (sEs q t e.2.2) 6) ∈ n := h e (.head _)
/-- one object brought to the head of a ledger's tail -/
theorem news_front {g h : Heap} {L d : Addr} {o : Obj} {n : List (Addr × Obj)} (N : ∀ p ∈ n, h.get? p.1 = some p.2 ∧ p.1 ≠ L ∧ g.get? p.1 = none) (hm : (d, o) ∈ n) : News g L h ((d, o) :: n.filter fun p => decide (p.1 ≠ d)) := fun p hp => by
  rcases List.mem_cons.mp hp with rfl | hp
  · exact N _ hm
  · exact N _ (List.mem_filter.mp hp).1
theorem off_front {d : Addr} {n : List (Addr × Obj)} : ∀ p ∈ n.filter (fun p => decide (p.1 ≠ d)), p.1 ≠ d := fun p hp => by simpa using (List.mem_filter.mp hp).2
theorem EsIn.front {n : List (Addr × Obj)} {d : Addr} {o : Obj} {es : List Ent} (h : EsIn n es) (hd : ∀ e ∈ es, e.2.1 ≠ d) : EsIn ((d, o) :: n.filter fun p => decide (p.1 ≠ d)) es := fun e he => by
  obtain ⟨q, t, hm⟩ := h e he
  exact ⟨q, t, .tail _ (List.mem_filter.mpr ⟨hm, by simpa using hd e he⟩)⟩
theorem off1_all {D : Addr} : ∀ {l : List (Addr × Obj)}, LCg.Off1 D l → ∀ p ∈ l, p.1 ≠ D
  | [], _, _, h => nomatch h
  | _ :: _, h, p, hp => by
    rcases List.mem_cons.mp hp with rfl | hp
    · exact h.1
    · exact off1_all h.2 p hp
theorem esIn_put {n : List (Addr × Obj)} {most : Int} {x d : Addr} {o : Obj} {σ : St} {dn r : List Ent} (h : EsIn ((d, o) :: n) (dn.map (cutE most) ++ r)) (hd : DIn ((d, o) :: n) d (cutS most σ)) : EsIn ((d, o) :: n) (dn.map (cutE most) ++ ([(x, d, σ)].map (cutE most) ++ r)) := fun e he => by
  rcases List.mem_append.mp he with he | he
  · exact h e (List.mem_append_left _ he)
  · rcases List.mem_append.mp he with he | he
    · simp only [List.map_cons, List.map_nil, List.mem_singleton] at he
      subst he
      exact hd
    · exact h e (List.mem_append_right _ he)
theorem EsIn.swap {n : List (Addr × Obj)} {d : Addr} {o o' : Obj} {es : List Ent} (h : EsIn ((d, o) :: n) es) (hd : ∀ e ∈ es, e.2.1 ≠ d) : EsIn ((d, o') :: n) es := fun e he => by
  obtain ⟨q, t, hm⟩ := h e he
  rcases List.mem_cons.mp hm with h | h
  · exact absurd (congrArg Prod.fst h) (hd e he)
  · exact ⟨q, t, .tail _ h⟩
theorem cut_spec {R dR SL : Addr} {S : Sc} {es : List Ent} {nl : Nat} {most : Int} {tm : Tok} (G : Gr w h₀) (hk : Up h₀ s.heap) (hA : A.handled = none) (hd : A.depth + 8 < recursionLimit) (hu : A.units + 16 < cLine)
    (W : RW s.heap R dR SL S es nl) (hlen : es.length ≤ 50) (hLf : h₀.get? SL = none) (hRf : h₀.get? dR = none) (hdf : ∀ e ∈ es, h₀.get? e.2.1 = none) (hg : ∀ e ∈ es, e.2.2.way ≠ 0 → e.2.2.reached ≠ none)
    (ret : ∀ h' tk SL' k, KeepBut (dR :: es.map (·.2.1)) s.heap h' → s.heap.get? SL' = none → RAt h' R dR S SL' → h'.get? SL' = some (listOf (refsE ((es.filter fun e => decide (e.2.2.high ≤ most)).map (cutE most))).toArray k) →
      EsAt h' ((es.filter fun e => decide (e.2.2.high ≤ most)).map (cutE most)) → Q .none {s with heap := h', toks := tk}) :
    wpAny (model Pg w) A (call (.ref 167) [.ref R, .int most tm]) Q E s := by
  obtain ⟨ah, ad, af, ag, au⟩ := A
  obtain rfl : ah = none := hA
  dsimp only at hd hu
  obtain ⟨⟨q, t, hR, hdR⟩, hL, hE, n1, n2, hne⟩ := W
  have hn1 : R ≠ SL := ne_of_cls hR hL (by simp)
  have hn2 : @Ne Nat dR SL := ne_of_cls hdR hL (by simp)
  have hn3 : R ≠ dR := ne_of_cls hR hdR (by simp)
  have hX := G.X.keeps hk
  obtain ⟨ds, hds⟩ : ∃ ds, ds = grabD s.heap es := ⟨_, rfl⟩
  have hgm := grabD_mem hE
  rw [← hds] at hgm
  have hdsR : ∀ p ∈ ds, p.1 ≠ dR := fun p hp e' => let ⟨e, he, e2⟩ := (hgm p hp).2; hne e he (e2.symm.trans e')
  have hgh : ∀ e ∈ es, ∃ q t, (e.2.1, dictOf (sEs q t e.2.2) 6) ∈ ds := fun e he => hds ▸ grabD_has hE he
  refine' enterX (D := (dR, dictOf (rEs q t S SL) 8) :: (SL, listOf (refsE es).toArray nl) :: ds) (binds := [(Str.ofString "self", .ref R), (Str.ofString "most", .int most tm)]) G hk (List.forall_mem_cons.mpr ⟨⟨hdR, hRf⟩, List.forall_mem_cons.mpr ⟨⟨hL, hLf⟩, fun p hp => ⟨(hgm p hp).1, let ⟨e, he, e'⟩ := (hgm p hp).2; e' ▸ hdf e he⟩⟩⟩) ?ho ?hcd ?hr ?hbind ?hkd ?hnd ?_ ?ha ?hb ?hc
  walk_at "np_enterX"
  intro g' L' h' tk0 mean mg mb cells F' N' Y' l1 X' T' G' kG'
  have hin : ∀ a, a ∈ List.map (fun x : Addr × Obj => x.1) ((dR, dictOf (rEs q t S SL) 8) :: (SL, listOf (refsE es).toArray nl) :: ds) → a = dR ∨ a = SL ∨ ∃ e ∈ es, a = e.2.1 := fun a ha => by
    simp only [List.map_cons, List.mem_cons] at ha
    rcases ha with h | h | h
    · exact .inl h
    · exact .inr (.inl h)
    · obtain ⟨p, hp, rfl⟩ := List.mem_map.mp h
      exact .inr (.inr (hgm p hp).2)
  have hR' := kG' _ _ hR (fun h => by
    rcases hin _ h with h | h | ⟨e, he, h⟩
    · exact hn3 h
    · exact hn1 h
    · obtain ⟨q, t, a, b⟩ := hE e he
      exact ne_of_cls hR b (by simp) h)
  have hxs : ∀ e ∈ es, g'.get? e.1 = some (instObj 98 e.2.1) := fun e he => by
    obtain ⟨q, t, a, b⟩ := hE e he
    refine kG' _ _ a fun h => ?_
    rcases hin _ h with h | h | ⟨e2, he2, h⟩
    · exact ne_of_cls a hdR (by simp) h
    · exact ne_of_cls a hL (by simp) h
    · obtain ⟨q, t, a2, b2⟩ := hE e2 he2
      exact ne_of_cls a b2 (by simp) h
  k_cells Y'
  simp only [List.cons_append, List.nil_append] at N'
  have l1c := l1
  k_lt l1
  try dsimp only
  k_unmd
  k_fold
  k_steps
  rename Fr _ _ _ _ => kF; rename News _ _ _ _ => kN
  refine Halt.mk ?_
  refine LCt.CompSrcT.ledger rfl kF kN (by k_mem) (by rw [sizeLine_eq]; simp only [List.size_toArray, List.length_map]; omega) (fun h1 => comp_restT (α := Ent) (f := fun e => .ref e.1) (l₀ := es)
    (fun r ys n => Hold (n = (L' + 1, _) :: (dR, dictOf (rEs q t S SL) 8) :: (SL, listOf (refsE es).toArray nl) :: ds ∧ ∃ dn, es = dn ++ r ∧ ys = refsE (dn.filter fun e => decide (e.2.2.high ≤ most)))) ?turn ?fin (Hold.mk ⟨rfl, [], rfl, rfl⟩))
  case turn =>
    rintro ⟨y, e, ρ⟩ r ys n I oI C oC D m₂ h tk E' ⟨rfl, dn, hdn, rfl⟩ hC hx F' N' off ne
    have hy' : g'.get? y = some (instObj 98 e) := hxs (y, e, ρ) (by rw [hdn]; simp)
    obtain ⟨q', t', he'⟩ := hgh (y, e, ρ) (by rw [hdn]; simp)
    dsimp only at he'
    clear kF kN
    k_unmd
    try k_fold
    k_steps
    all_goals (rename Fr _ _ _ _ => kF; rename News _ _ _ _ => kN)
    all_goals exact Halt.mk (LCg.CompEnd.intro kF kN _ (fun p hp => hp) off (.inr ⟨_, by k_mem, rfl, _, rfl⟩) (Hold.mk ⟨rfl, dn ++ [(y, e, ρ)], by rw [hdn]; simp, by simp [refsE, List.filter_append, *]⟩))
  case fin =>
    clear kF kN
    rintro ys n ⟨rfl, dn, hdn, rfl⟩ D h tk F' N' off
    rw [List.append_nil] at hdn
    subst hdn
    obtain ⟨es1, hes1⟩ : ∃ es1, es1 = es.filter fun e => decide (e.2.2.high ≤ most) := ⟨_, rfl⟩
    rw [← hes1] at N' ret
    simp only [LCg.Off1, and_true] at off
    have hn2' := neN hn2
    try dsimp only
    k_unmd
    try k_fold
    k_steps
    rename Fr _ _ _ _ => kF; rename News _ _ _ _ => kN
    have hsub : ∀ e ∈ es1, e ∈ es := fun e he => (List.mem_filter.mp (hes1 ▸ he)).1
    have hn21 : (es1.map (·.2.1)).Nodup := by rw [hes1]; exact n2.sublist ((List.filter_sublist).map _)
    refine Halt.mk ?_
    refine loop_listJ (α := Ent) (f := fun e => .ref e.1) (l := es1) [Str.ofString "stream"] (fun r n' => Hold (∃ nD, n' = (D, LCg.lst (refsE es1)) :: (L' + 1, _) :: (dR, _) :: nD ∧ (SL, listOf (refsE es).toArray nl) ∈ nD ∧ (∀ p ∈ nD, p.1 ∈ ((SL, listOf (refsE es).toArray nl) :: ds).map (·.1)) ∧ ∃ dn, es1 = dn ++ r ∧ EsIn nD (dn.map (cutE most) ++ r)))
      (L := L') rfl rfl kF kN (.head _) rfl rfl rfl (Hold.mk ⟨_, rfl, .head _, fun p hp => List.mem_map_of_mem hp, [], rfl, fun e he => ?start⟩) ?nil ?cons
    case start =>
      obtain ⟨q, t, hm⟩ := hgh e (hsub e he)
      exact ⟨q, t, .tail _ hm⟩
    case nil =>
      clear kF kN
      rintro m' n' h' tk' ⟨nD, rfl, hSL, hAd, dn, hdn, hEs⟩ F' N'
      rw [List.append_nil] at hdn hEs
      subst hdn
      try dsimp only
      k_unmd
      try k_fold
      k_steps
      have hkb := keepBut_news (M := dR :: es.map (·.2.1)) kG' F' N' (List.forall_mem_cons.mpr ⟨hdR, List.forall_mem_cons.mpr ⟨hL, fun p hp => (hgm p hp).1⟩⟩) (List.forall_mem_cons.mpr ⟨.inl (.head _), List.forall_mem_cons.mpr ⟨.inr (.tail _ (.tail _ (.tail _ hSL))), fun p hp => .inl (let ⟨e, he, e'⟩ := (hgm p hp).2; e' ▸ .tail _ (List.mem_map_of_mem (f := fun e : Ent => e.2.1) he))⟩⟩)
      have hlst := N'.get (.head _)
      have hlst : h'.get? D = some (listOf (refsE (es1.map (cutE most))).toArray (refsE es1).length) := by rw [show refsE (es1.map (cutE most)) = refsE es1 by simp [refsE, cutE]]; exact hlst
      refine ret _ _ D (refsE es1).length hkb (none_but kG' N' (.head _) fun h => ?_) (RAt.mk' (F'.keep _ _ hR') (N'.get (.tail _ (.tail _ (.head _))))) hlst ?_
      · rcases hin _ h with h | h | ⟨e, he, h⟩
        · exact ne_of_cls (N'.get (.head _)) (N'.get (.tail _ (.tail _ (.head _)))) (by simp) h
        · exact off.2.2.1 h.symm
        · obtain ⟨q, t, hm⟩ := hgh e he
          exact off1_all off.2.2.2 (e.2.1, _) hm h.symm
      · intro e he
        obtain ⟨q, t, hm⟩ := hEs e he
        obtain ⟨e', he', rfl⟩ := List.mem_map.mp he
        exact ⟨q, t, F'.keep _ _ (hxs e' (hsub e' he')), N'.get (.tail _ (.tail _ (.tail _ hm)))⟩
    case cons =>
      clear kF kN
      rintro ⟨x, d, σ⟩ r m' n' I it h' tk' hI ⟨nD, rfl, hSL, hAd, dn, hdn, hEs⟩ hit F' N'
      have hes : (x, d, σ) ∈ es := hsub _ (by rw [hdn]; simp)
      have hx' : g'.get? x = some (instObj 98 d) := hxs (x, d, σ) hes
      obtain ⟨q', t', hmem⟩ := hEs (x, d, σ) (by simp)
      dsimp only at hmem
      have hdn2 : ∀ e ∈ dn.map (cutE most) ++ r, e.2.1 ≠ d := by
        rw [hdn, List.map_append, List.map_cons, List.nodup_append] at hn21
        intro e he
        rcases List.mem_append.mp he with he | he
        · obtain ⟨e', he', rfl⟩ := List.mem_map.mp he
          exact hn21.2.2 _ (List.mem_map_of_mem he') _ (.head _)
        · intro h
          have := (List.nodup_cons.mp hn21.2.1).1
          rw [show (x, d, σ).2.1 = d from rfl, ← h] at this
          exact this (List.mem_map_of_mem (f := fun e : Ent => e.2.1) he)
      have hEs2 := EsIn.front (d := d) (o := dictOf (sEs q' t' σ) 6) (es := dn.map (cutE most) ++ r) (fun e he => hEs e (by rcases List.mem_append.mp he with h | h <;> simp [h])) hdn2
      have N2 : News g' L' h' ((I, it) :: (D, LCg.lst (refsE es1)) :: (L' + 1, _) :: (dR, _) :: (d, dictOf (sEs q' t' σ) 6) :: nD.filter fun p => decide (p.1 ≠ d)) :=
        List.forall_mem_cons.mpr ⟨N' _ (.head _), List.forall_mem_cons.mpr ⟨N' _ (.tail _ (.head _)), List.forall_mem_cons.mpr ⟨N' _ (.tail _ (.tail _ (.head _))), List.forall_mem_cons.mpr ⟨N' _ (.tail _ (.tail _ (.tail _ (.head _)))), news_front (fun p hp => N' p (.tail _ (.tail _ (.tail _ (.tail _ hp))))) hmem⟩⟩⟩⟩
      have hoff := off_front (d := d) (n := nD)
      have hSL2 : (SL, listOf (refsE es).toArray nl) ∈ nD.filter fun p => decide (p.1 ≠ d) := List.mem_filter.mpr ⟨hSL, by
        have : SL ≠ d := ne_of_cls (N' _ (.tail _ (.tail _ (.tail _ (.tail _ hSL))))).1 (N' _ (.tail _ (.tail _ (.tail _ (.tail _ hmem))))).1 (by simp)
        simpa using this⟩
      have hAd2 : ∀ p ∈ nD.filter (fun p => decide (p.1 ≠ d)), p.1 ∈ ((SL, listOf (refsE es).toArray nl) :: ds).map (·.1) := fun p hp => hAd p (List.mem_filter.mp hp).1
      have hIa : ∀ a ∈ ((SL, listOf (refsE es).toArray nl) :: ds).map (·.1), @LT.lt Nat _ a I := fun a ha => by
        obtain ⟨p, hp, rfl⟩ := List.mem_map.mp ha
        exact hI p (.tail _ (.tail _ (.tail _ hp)))
      obtain ⟨n3, hn3⟩ : ∃ n3, n3 = nD.filter fun p => decide (p.1 ≠ d) := ⟨_, rfl⟩
      rw [← hn3] at hEs2 N2 hoff hSL2 hAd2
      have hId : @Ne Nat I d := ne_of_cls (N2.get (.head _)) (N2.get (.tail _ (.tail _ (.tail _ (.tail _ (.head _)))))) (by rw [hit]; simp)
      have hDd : @Ne Nat D d := ne_of_cls (N2.get (.tail _ (.head _))) (N2.get (.tail _ (.tail _ (.tail _ (.tail _ (.head _)))))) (by simp [LCg.lst])
      have hRd : @Ne Nat dR d := fun e => hne (x, d, σ) hes e.symm
      have hdm : d ∈ ds.map (·.1) := by
        obtain ⟨q, t, hm⟩ := hgh (x, d, σ) hes
        exact List.mem_map.mpr ⟨_, hm, rfl⟩
      have hdL : @LT.lt Nat _ d L' := by
        obtain ⟨q, t, hm⟩ := hgh (x, d, σ) hes
        exact l1c _ (.tail _ (.tail _ hm))
      clear N' hn3 hmem hSL
      obtain ⟨wy, lo, hi, re, fa, sta⟩ := σ
      have hgx := hg (x, d, ⟨wy, lo, hi, re, fa, sta⟩) hes
      dsimp only at hgx
      cases re with
      | none =>
        have hw0 : wy = 0 := Classical.byContradiction fun h => hgx h rfl
        subst hw0
        try dsimp only [sEs, optV] at N2
        k_unmd
        k_fold
        k_steps
        rename Fr _ _ _ _ => kF; rename News _ _ _ _ => kN
        refine ⟨_, _, _, _, rfl, kF, kN, ?off, .head _, Hold.mk ⟨_, rfl, .tail _ hSL2, ?ad, dn ++ [(x, d, ⟨0, lo, hi, none, fa, sta⟩)], by rw [hdn]; simp, ?es⟩, fun y hy => by simp +zetaDelta only [hy, if_false, Bool.false_eq_true]; exact if_neg (off1 hy)⟩
        case ad => exact List.forall_mem_cons.mpr ⟨List.mem_cons_of_mem _ hdm, hAd2⟩
        case off =>
          refine List.forall_mem_cons.mpr ⟨?_, List.forall_mem_cons.mpr ⟨?_, List.forall_mem_cons.mpr ⟨?_, List.forall_mem_cons.mpr ⟨?_, fun p hp => Nat.ne_of_lt (hIa _ (hAd2 p hp))⟩⟩⟩⟩
          · exact Nat.ne_of_lt (hI _ (.head _))
          · exact Nat.ne_of_lt (hI (L' + 1, _) (.tail _ (.head _)))
          · exact Nat.ne_of_lt (hI (dR, _) (.tail _ (.tail _ (.head _))))
          · exact hId.symm
        case es =>
          rw [List.map_append, List.append_assoc]
          refine esIn_put hEs2 ?_
          exact (show cutS most ⟨0, lo, hi, none, fa, sta⟩ = _ from if_neg (by simp)) ▸ DIn.mk' (r := none) (t3 := 0) (.head _)
      | some re =>
        try dsimp only [sEs, optV] at N2
        k_unmd
        k_fold
        k_steps
        all_goals (
          rename Fr _ _ _ _ => kF; rename News _ _ _ _ => kN
          refine ⟨_, _, _, _, rfl, kF, kN, ?off, .head _, Hold.mk ⟨_, rfl, .tail _ hSL2, ?ad, dn ++ [(x, d, ⟨wy, lo, hi, some re, fa, sta⟩)], by rw [hdn]; simp, ?es⟩, fun y hy => by simp +zetaDelta only [hy, if_false, Bool.false_eq_true]; exact if_neg (off1 hy)⟩
          case ad => exact List.forall_mem_cons.mpr ⟨List.mem_cons_of_mem _ hdm, hAd2⟩
          case off =>
            refine List.forall_mem_cons.mpr ⟨?_, List.forall_mem_cons.mpr ⟨?_, List.forall_mem_cons.mpr ⟨?_, List.forall_mem_cons.mpr ⟨?_, fun p hp => Nat.ne_of_lt (hIa _ (hAd2 p hp))⟩⟩⟩⟩
            · exact Nat.ne_of_lt (hI _ (.head _))
            · exact Nat.ne_of_lt (hI (L' + 1, _) (.tail _ (.head _)))
            · exact Nat.ne_of_lt (hI (dR, _) (.tail _ (.tail _ (.head _))))
            · exact hId.symm
          case es =>
            rw [List.map_append, List.append_assoc]
            refine esIn_put (EsIn.swap hEs2 hdn2) ?_
            first
              | (rw [show cutS most ⟨wy, lo, hi, some re, fa, sta⟩ = ⟨wy, lo, hi, some re, fa, sta⟩ from if_neg (by assumption)]; exact DIn.mkS (.head _))
              | (rw [show cutS most ⟨wy, lo, hi, some re, fa, sta⟩ = ⟨wy, lo, hi, some (if most < re then most else re), fa, sta⟩ by
                  rw [cutS, if_pos (by assumption)]; simp only [Option.map_some, St.mk.injEq, Option.some.injEq, true_and, and_true]; split <;> omega]; exact DIn.mkS (.head _)))
end
end

section
theorem offNpI : True := by w_top off; trivial
theorem wNpI0 : True := by
  k_with_none
  (k_with "np_omega" => (first
      | (with_reducible assumption)
      | omega -splitDisjunctions
      | ((with_reducible show @Ne Nat _ _); with_reducible refine Ne.symm ?_; with_reducible assumption)
      | (refine Nat.le_antisymm ?_ ?_ <;> omega -splitDisjunctions)
      | (refine Int.le_antisymm ?_ ?_ <;> omega -splitDisjunctions)
      | omega +splitDisjunctions))
  (k_with "np_mm" => (first
      | (simp (disch := (first | assumption | exact Int.le_of_lt (by assumption) | exact Int.not_lt.mp (by assumption) | omega)) only [Int.max_eq_right, Int.max_eq_left, Int.min_eq_right, Int.min_eq_left]; done)
      | omega))
  (k_with "np_lt" => (k_dflt (repeat (intro _)); k_dflt (refine Got.mk ?_)))
  (k_with "np_ne" => (first
      | (with_reducible refine Nat.ne_of_lt ?_; with_reducible assumption)
      | (with_reducible refine Nat.ne_of_gt ?_; with_reducible assumption)
      | (with_reducible assumption)
      | (with_reducible refine Ne.symm ?_; with_reducible assumption)
      | (refine neN ?_; (try dsimp only); omega)))
  (k_with "np_mem" => (first
      | ((repeat' (with_reducible first | exact List.Mem.head _ | refine List.Mem.tail _ ?_)); done)
      | (with_reducible assumption)
      | assumption))
  (k_with "ite" => (k_closed; k_dflt (first | refine ite_pos (by decide) ?_ | refine ite_neg (by decide) ?_)))
  (k_with "callWith ref" => (k_here; k_dflt (first | (refine' callWith_K ?k1_q ?k2_q ?_; (case k1_q => k_asm); (case k2_q => k_is); k_whole) | (refine' callWith_K0 ?k1_q ?k2_q ?_; (case k1_q => exact Frag.In.keeps (by k_asm) (Fr.keep (by k_asm))); (case k2_q => k_is); k_whole))))
  (k_with "CompEnd" => (with_reducible refine haltIt ?_))
  (k_with "CompSrc" => (with_reducible refine haltIt ?_))
  (k_with "CompSrcT" => (with_reducible refine haltIt ?_))
  (k_with "np_inst" => (first
      | (refine' InstAt.of_base ?F_q ?h1_q ?h2_q; (case F_q => k_asm); (case h1_q => k_asm); (case h2_q => k_asm))
      | (refine' InstAt.of_mixed ?F_q ?h1_q ?N_q ?h2_q; (case F_q => k_asm); (case h1_q => k_asm); (case N_q => k_asm); (case h2_q => k_mem))))
  (k_with "execs cons" => (k_here; (try (with_reducible refine gentok ?_; intro _)); (with_reducible refine wpAny_execs_cons ?_); (try dsimp only); (try k_fold)))
  (k_with "execs nil" => (k_here; with_reducible refine gentok ?_; intro _))
  (k_with "np_handed" => (exact handed_opt _ _))
  (k_with "np_enter" => (case ho => k_dflt k_is); (case hcd => k_dflt k_is); (try (case hr => (first | omega | (dsimp only; omega)))); (case hbind => first | exact BindsTo.of_eq rfl | (refine' binds_K ?bx_q ?b1_q ?b2_q ?b3_q ?b4_q ?b5_q; (case bx_q => assumption); (case b1_q => exact rfl); (case b2_q => k_dflt k_is); (case b3_q => exact rfl); (case b4_q => exact rfl); (case b5_q => exact rfl))); (case hloc => exact locs rfl); (case ha => exact rfl); (case hb => exact rfl); (case hc => exact rfl); (case hd => decide))
  (k_with "np_enterX" => (case ho => k_dflt k_is); (case hcd => k_dflt k_is); (try (case hr => (first | omega | (dsimp only; omega)))); (case hbind => first | exact BindsTo.of_eq rfl | (refine' binds_K ?bx_q ?b1_q ?b2_q ?b3_q ?b4_q ?b5_q; (case bx_q => assumption); (case b1_q => exact rfl); (case b2_q => k_dflt k_is); (case b3_q => exact rfl); (case b4_q => exact rfl); (case b5_q => exact rfl))); (case hkd => exact rfl); (case hnd => decide +kernel); (case ha => exact rfl); (case hb => exact rfl); (case hc => exact rfl))
  trivial
theorem wNpI1 : True := by
  (k_with "exec Assign cons ListComp" => (k_here; first | (lct_look; k_dflt (refine LCt.Assign_ListComp_T (F₀ := by k_asm) (by rfl) (by with_unfolding_all rfl) (by with_unfolding_all rfl) (by decide) (by rfl) (by decide) (by rfl) (by rfl) (by rfl) ?_)) | (k_dflt (refine LCg.Assign_ListComp_U (F₀ := by k_asm) (by rfl) (by with_unfolding_all rfl) (by with_unfolding_all rfl) (by decide) (by rfl) (by decide) (by rfl) (by rfl) (by rfl) ?_))))
  (k_with "eval ListComp" => (k_here; first | (lct_look; k_dflt (refine LCt.ListComp_T (F₀ := by k_asm) (by with_unfolding_all rfl) (by decide) (by rfl) (by decide) (by rfl) ?_)) | ((with_reducible show wpAny _ _ (eval (Expr.ListComp _ [Comprehension.mk _ _ [] _] _ _) _) _ _ _); k_dflt (refine LCg.ListComp_U (F₀ := by k_asm) (by with_unfolding_all rfl) (by decide) (by rfl) (by decide) (by rfl) ?_))))
  (k_with "call builtin:len" => (k_here; (with_reducible show wpAny _ _ (call (Value.builtin "len") [Value.ref _]) _ _ _); (refine len_refs (by k_asm) (by k_mem) (by with_reducible assumption) ?_)))
  trivial
section
variable {w : World} {A : Around} {s : Shared} {h₀ : Heap} {Q E : Value → Shared → Prop} {x d : Addr} {σ : St}
theorem age_spec {R dR SL : Addr} {S : Sc} {es : List Ent} {nl : Nat} {st : Int} {tm : Tok} (G : Gr w h₀) (hk : Up h₀ s.heap) (hA : A.handled = none) (hd : A.depth + 8 < recursionLimit)
    (W : RW s.heap R dR SL S es nl) (hlen : es.length ≤ 50) (hLf : h₀.get? SL = none) (hRf : h₀.get? dR = none)
    (ret : ∀ h' tk SL' k t, KeepBut [dR] s.heap h' → s.heap.get? SL' = none → RAt h' R dR S SL' → h'.get? SL' = some (listOf (refsE (es.filter fun e => decide (S.stamp - e.2.2.stamp < st))).toArray k) →
      Q (.int ((es.length : Int) - ((es.filter fun e => decide (S.stamp - e.2.2.stamp < st)).length : Int)) t) {s with heap := h', toks := tk}) :
    wpAny (model Pg w) A (call (.ref 172) [.ref R, .int st tm]) Q E s := by
  obtain ⟨ah, ad, af, ag, au⟩ := A
  obtain rfl : ah = none := hA
  dsimp only at hd
  obtain ⟨⟨q, t, hR, hdR⟩, hL, hE, n1, n2, hne⟩ := W
  have hn1 : R ≠ SL := ne_of_cls hR hL (by simp)
  have hn2 : @Ne Nat dR SL := ne_of_cls hdR hL (by simp)
  have hn3 : R ≠ dR := ne_of_cls hR hdR (by simp)
  refine' enterX (D := [(dR, dictOf (rEs q t S SL) 8), (SL, listOf (refsE es).toArray nl)]) (binds := [(Str.ofString "self", .ref R), (Str.ofString "stamps", .int st tm)]) G hk (List.forall_mem_cons.mpr ⟨⟨hdR, hRf⟩, List.forall_mem_singleton.mpr ⟨hL, hLf⟩⟩) ?ho ?hcd ?hr ?hbind ?hkd ?hnd ?_ ?ha ?hb ?hc
  walk_at "np_enterX"
  intro g' L' h' tk0 mean mg mb cells F' N' Y' l1 X' T' G' kG'
  have hEg : EsAt g' es := fun e he => by
    obtain ⟨q, t, a, b⟩ := hE e he
    refine ⟨q, t, kG' _ _ a ?_, kG' _ _ b ?_⟩
    · simp; exact ⟨ne_of_cls a hdR (by simp), ne_of_cls a hL (by simp)⟩
    · simp; exact ⟨hne e he, ne_of_cls b hL (by simp)⟩
  have hR' := kG' _ _ hR (by simp [hn1, hn3])
  have hlen2 : es.length ≤ 100 := by omega
  obtain ⟨es1, hes1⟩ : ∃ es1, es1 = es.filter fun e => decide (S.stamp - e.2.2.stamp < st) := ⟨_, rfl⟩
  have hlen3 : es1.length ≤ 100 := by have := List.length_filter_le (fun e : Ent => decide (S.stamp - e.2.2.stamp < st)) es; rw [hes1]; omega
  rw [← hes1] at ret
  k_cells Y'
  rename_i o1 o2 e1 e2
  simp only [List.cons_append, List.nil_append] at N'
  k_lt l1
  try dsimp only
  k_unmd
  k_fold
  k_steps
  rename Fr _ _ _ _ => kF; rename News _ _ _ _ => kN
  refine Halt.mk ?_
  refine LCt.CompSrcT.ledger rfl kF kN (.tail _ (.tail _ (.tail _ (.head _)))) (by rw [sizeLine_eq]; simp only [refsE, List.size_toArray, List.length_map]; omega) (fun h1 => comp_restT (α := Ent) (f := fun e => .ref e.1) (l₀ := es)
    (fun r ys n => Hold (n = [(L' + 1 + 1, o1), (L' + 1, o2), (dR, dictOf (rEs q t S SL) 8), (SL, listOf (refsE es).toArray nl)] ∧ ∃ dn, es = dn ++ r ∧ ys = refsE (dn.filter fun e => decide (S.stamp - e.2.2.stamp < st)))) ?turn ?fin (Hold.mk ⟨rfl, [], rfl, rfl⟩))
  case turn =>
    rintro ⟨y, e, ρ⟩ r ys n I oI C oC D m₂ h tk E' ⟨rfl, dn, hdn, rfl⟩ hC hx F' N' off ne
    have hst : StAt g' y e ρ := hEg (y, e, ρ) (by rw [hdn]; simp)
    obtain ⟨q', t', hy', he'⟩ := id hst
    clear kF kN
    k_unmd
    try k_fold
    k_steps
    all_goals (rename Fr _ _ _ _ => kF; rename News _ _ _ _ => kN)
    all_goals exact Halt.mk (LCg.CompEnd.intro kF kN _ (fun p hp => hp) off (.inr ⟨_, by k_mem, rfl, _, rfl⟩) (Hold.mk ⟨rfl, dn ++ [(y, e, ρ)], by rw [hdn]; simp, by simp [refsE, List.filter_append, *]⟩))
  case fin =>
    clear kF kN
    rintro ys n ⟨rfl, dn, hdn, rfl⟩ D h tk F' N' off
    rw [List.append_nil] at hdn
    subst hdn
    rw [← hes1] at N'
    (refine offTo off ?_; clear off; walk_at "np_lt")
    have hn2' := neN hn2
    try dsimp only
    k_unmd
    try k_fold
    k_steps
    rename Fr _ _ _ _ => kF; rename News _ _ _ _ => kN
    refine ret _ _ D _ _ ?_ ?_ (RAt.mk' (kF.keep _ _ hR') (kN.get (by k_mem))) (kN.get (.head _))
    · exact keepBut_news kG' kF kN (List.forall_mem_cons.mpr ⟨hdR, List.forall_mem_singleton.mpr hL⟩) (List.forall_mem_cons.mpr ⟨.inl (.head _), List.forall_mem_singleton.mpr (.inr (by k_mem))⟩)
    · exact none_but kG' kN (.head _) (nm2 (by omega) (by omega))
end
end

section
theorem wNpV0 : True := by
  k_with_none
  (k_with "np_omega" => (first
      | (with_reducible assumption)
      | omega -splitDisjunctions
      | ((with_reducible show @Ne Nat _ _); with_reducible refine Ne.symm ?_; with_reducible assumption)
      | (refine Nat.le_antisymm ?_ ?_ <;> omega -splitDisjunctions)
      | (refine Int.le_antisymm ?_ ?_ <;> omega -splitDisjunctions)
      | omega +splitDisjunctions))
  (k_with "np_mm" => (first
      | (simp (disch := (first | assumption | exact Int.le_of_lt (by assumption) | exact Int.not_lt.mp (by assumption) | omega)) only [Int.max_eq_right, Int.max_eq_left, Int.min_eq_right, Int.min_eq_left]; done)
      | omega))
  (k_with "np_lt" => (k_dflt (repeat (intro _)); k_dflt (refine Got.mk ?_)))
  (k_with "np_ne" => (first
      | (with_reducible refine Nat.ne_of_lt ?_; with_reducible assumption)
      | (with_reducible refine Nat.ne_of_gt ?_; with_reducible assumption)
      | (with_reducible assumption)
      | (with_reducible refine Ne.symm ?_; with_reducible assumption)
      | (refine neN ?_; (try dsimp only); omega)))
  (k_with "np_mem" => (first
      | ((repeat' (with_reducible first | exact List.Mem.head _ | refine List.Mem.tail _ ?_)); done)
      | (with_reducible assumption)
      | assumption))
  (k_with "ite" => (k_closed; k_dflt (first | refine ite_pos (by decide) ?_ | refine ite_neg (by decide) ?_)))
  (k_with "callWith ref" => (k_here; k_dflt (first | (refine' callWith_K ?k1_q ?k2_q ?_; (case k1_q => k_asm); (case k2_q => k_is); k_whole) | (refine' callWith_K0 ?k1_q ?k2_q ?_; (case k1_q => exact Frag.In.keeps (by k_asm) (Fr.keep (by k_asm))); (case k2_q => k_is); k_whole))))
  (k_with "CompEnd" => (with_reducible refine haltIt ?_))
  (k_with "CompSrc" => (with_reducible refine haltIt ?_))
  (k_with "CompSrcT" => (with_reducible refine haltIt ?_))
  (k_with "np_inst" => (first
      | (refine' InstAt.of_base ?F_q ?h1_q ?h2_q; (case F_q => k_asm); (case h1_q => k_asm); (case h2_q => k_asm))
      | (refine' InstAt.of_mixed ?F_q ?h1_q ?N_q ?h2_q; (case F_q => k_asm); (case h1_q => k_asm); (case N_q => k_asm); (case h2_q => k_mem))))
  (k_with "execs cons" => (k_here; (try (with_reducible refine gentok ?_; intro _)); (with_reducible refine wpAny_execs_cons ?_); (try dsimp only); (try k_fold)))
  (k_with "execs nil" => (k_here; with_reducible refine gentok ?_; intro _))
  (k_with "np_handed" => (exact handed_opt _ _))
  (k_with "np_enter" => (case ho => k_dflt k_is); (case hcd => k_dflt k_is); (try (case hr => (first | omega | (dsimp only; omega)))); (case hbind => first | exact BindsTo.of_eq rfl | (refine' binds_K ?bx_q ?b1_q ?b2_q ?b3_q ?b4_q ?b5_q; (case bx_q => assumption); (case b1_q => exact rfl); (case b2_q => k_dflt k_is); (case b3_q => exact rfl); (case b4_q => exact rfl); (case b5_q => exact rfl))); (case hloc => exact locs rfl); (case ha => exact rfl); (case hb => exact rfl); (case hc => exact rfl); (case hd => decide))
  (k_with "np_enterX" => (case ho => k_dflt k_is); (case hcd => k_dflt k_is); (try (case hr => (first | omega | (dsimp only; omega)))); (case hbind => first | exact BindsTo.of_eq rfl | (refine' binds_K ?bx_q ?b1_q ?b2_q ?b3_q ?b4_q ?b5_q; (case bx_q => assumption); (case b1_q => exact rfl); (case b2_q => k_dflt k_is); (case b3_q => exact rfl); (case b4_q => exact rfl); (case b5_q => exact rfl))); (case hkd => exact rfl); (case hnd => decide +kernel); (case ha => exact rfl); (case hb => exact rfl); (case hc => exact rfl))
  trivial
section
noncomputable def GoodD (k : Nat) (d : PyData) : Prop := d.canLay0 = true ∧ d.depth ≤ k
theorem GoodD.int (i : Int) (k : Nat) : GoodD k (.int i) := ⟨rfl, Nat.zero_le _⟩
theorem GoodD.opt (r : Option Int) (k : Nat) : GoodD k (optP r) := by cases r <;> exact ⟨rfl, Nat.zero_le _⟩
theorem goodAll {k : Nat} : ∀ {ds : List PyData}, (∀ d ∈ ds, GoodD k d) → PyData.canLayAll0 ds = true ∧ PyData.depthAll ds ≤ k
  | [], _ => ⟨rfl, Nat.zero_le _⟩
  | d :: r, h => by
    obtain ⟨a, b⟩ := goodAll (ds := r) fun d hd => h d (.tail _ hd)
    obtain ⟨c, e⟩ := h d (.head _)
    refine ⟨by rw [PyData.canLayAll0, c, a]; rfl, by rw [PyData.depthAll]; omega⟩
theorem GoodD.list {k : Nat} {ds : List PyData} (h : ∀ d ∈ ds, GoodD k d) : GoodD (k + 1) (.list ds) := by
  obtain ⟨a, b⟩ := goodAll h
  exact ⟨by rw [PyData.canLay0]; exact a, by rw [PyData.depth]; omega⟩
theorem GoodD.tuple {k : Nat} {ds : List PyData} (h : ∀ d ∈ ds, GoodD k d) : GoodD (k + 1) (.tuple ds) := by
  obtain ⟨a, b⟩ := goodAll h
  exact ⟨by rw [PyData.canLay0]; exact a, by rw [PyData.depth]; omega⟩
theorem GoodD.shaped {k : Nat} {d : PyData} (h : GoodD k d) (hk : k ≤ 64) : PySem.SeqAt.shaped d = true := by
  unfold PySem.SeqAt.shaped
  rw [h.1]
  simp
  have := h.2
  omega
theorem goodInts (is : List Int) : GoodD 1 (.list (is.map PyData.int)) := GoodD.list fun d hd => by
  obtain ⟨i, _, rfl⟩ := List.mem_map.mp hd
  exact GoodD.int i 0
theorem good_stP (σ : St) : GoodD 1 (stP σ) := GoodD.tuple fun d hd => by
  simp only [List.mem_cons, List.not_mem_nil, or_false] at hd
  rcases hd with rfl | rfl | rfl | rfl | rfl | rfl <;> first | exact GoodD.int _ 0 | exact GoodD.opt _ 0
noncomputable def stL (σ : St) : PyData := .list [.int σ.way, .int σ.low, .int σ.high, optP σ.reached, .int σ.far, .int σ.stamp]
theorem good_stL (σ : St) : GoodD 1 (stL σ) := GoodD.list fun d hd => by
  simp only [List.mem_cons, List.not_mem_nil, or_false] at hd
  rcases hd with rfl | rfl | rfl | rfl | rfl | rfl <;> first | exact GoodD.int _ 0 | exact GoodD.opt _ 0
theorem good_plainP (S : Sc) (ss : List St) : GoodD 3 (plainP S ss) := GoodD.tuple fun d hd => by
  simp only [List.mem_cons, List.not_mem_nil, or_false] at hd
  rcases hd with rfl | rfl | rfl | rfl | rfl
  · exact GoodD.tuple fun d hd => by
      obtain ⟨σ, _, rfl⟩ := List.mem_map.mp hd
      exact good_stP σ
  all_goals exact GoodD.int _ 2
theorem eqv_self {k : Nat} {d : PyData} (h : GoodD k d) : PyData.eqv d d = true := PySem.SeqAt.eqv_refl d h.1
theorem reads_ints {h : Heap} {vs : List Value} {is : List Int} (hi : IntsAre vs is) : ∃ as, ReadsAll h vs (is.map PyData.int) as := by
  induction hi with
  | nil => exact ⟨_, .nil⟩
  | cons i t _ ih => obtain ⟨as, r⟩ := ih; exact ⟨_, .cons (.int _ _) r⟩
theorem reads_intList {h : Heap} {a : Addr} {vs : List Value} {is : List Int} {n : Nat} (e : h.get? a = some (listOf vs.toArray n)) (hi : IntsAre vs is) : ReadsP h (.ref a) (.list (is.map PyData.int)) := by
  obtain ⟨as, r⟩ := reads_ints (h := h) hi
  exact ⟨_, .list e rfl rfl (by simpa using r)⟩
end
end

section
theorem offNpJ : True := by w_top off; trivial
theorem wNpJ0 : True := by
  k_with_none
  (k_with "np_omega" => (first
      | (with_reducible assumption)
      | omega -splitDisjunctions
      | ((with_reducible show @Ne Nat _ _); with_reducible refine Ne.symm ?_; with_reducible assumption)
      | (refine Nat.le_antisymm ?_ ?_ <;> omega -splitDisjunctions)
      | (refine Int.le_antisymm ?_ ?_ <;> omega -splitDisjunctions)
      | omega +splitDisjunctions))
  (k_with "np_mm" => (first
      | (simp (disch := (first | assumption | exact Int.le_of_lt (by assumption) | exact Int.not_lt.mp (by assumption) | omega)) only [Int.max_eq_right, Int.max_eq_left, Int.min_eq_right, Int.min_eq_left]; done)
      | omega))
  (k_with "np_lt" => (k_dflt (repeat (intro _)); k_dflt (refine Got.mk ?_)))
  (k_with "np_ne" => (first
      | (with_reducible refine Nat.ne_of_lt ?_; with_reducible assumption)
      | (with_reducible refine Nat.ne_of_gt ?_; with_reducible assumption)
      | (with_reducible assumption)
      | (with_reducible refine Ne.symm ?_; with_reducible assumption)
      | (refine neN ?_; (try dsimp only); omega)))
  (k_with "np_mem" => (first
      | ((repeat' (with_reducible first | exact List.Mem.head _ | refine List.Mem.tail _ ?_)); done)
      | (with_reducible assumption)
      | assumption))
  (k_with "ite" => (k_closed; k_dflt (first | refine ite_pos (by decide) ?_ | refine ite_neg (by decide) ?_)))
  (k_with "callWith ref" => (k_here; k_dflt (first | (refine' callWith_K ?k1_q ?k2_q ?_; (case k1_q => k_asm); (case k2_q => k_is); k_whole) | (refine' callWith_K0 ?k1_q ?k2_q ?_; (case k1_q => exact Frag.In.keeps (by k_asm) (Fr.keep (by k_asm))); (case k2_q => k_is); k_whole))))
  (k_with "CompEnd" => (with_reducible refine haltIt ?_))
  (k_with "CompSrc" => (with_reducible refine haltIt ?_))
  (k_with "CompSrcT" => (with_reducible refine haltIt ?_))
  (k_with "np_inst" => (first
      | (refine' InstAt.of_base ?F_q ?h1_q ?h2_q; (case F_q => k_asm); (case h1_q => k_asm); (case h2_q => k_asm))
      | (refine' InstAt.of_mixed ?F_q ?h1_q ?N_q ?h2_q; (case F_q => k_asm); (case h1_q => k_asm); (case N_q => k_asm); (case h2_q => k_mem))))
  (k_with "execs cons" => (k_here; (try (with_reducible refine gentok ?_; intro _)); (with_reducible refine wpAny_execs_cons ?_); (try dsimp only); (try k_fold)))
  (k_with "execs nil" => (k_here; with_reducible refine gentok ?_; intro _))
  (k_with "subscriptTail Name Constant ref int" => (k_here; (with_reducible show wpAny _ _ (subscriptTail _ _ (Value.ref _) (Value.int _ _)) _ _ _); k_dflt (refine' item_gl ?F_q ?I_q ?a_q ?b_q ?x_q ?_ ?hs_q; (case F_q => k_asm); (case I_q => with_reducible assumption); (case a_q => decide); (case b_q => decide); (case x_q => rfl); (case hs_q => with_unfolding_all rfl); k_whole)))
  (k_with "np_handed" => (exact handed_opt _ _))
  (k_with "np_enter" => (case ho => k_dflt k_is); (case hcd => k_dflt k_is); (try (case hr => (first | omega | (dsimp only; omega)))); (case hbind => first | exact BindsTo.of_eq rfl | (refine' binds_K ?bx_q ?b1_q ?b2_q ?b3_q ?b4_q ?b5_q; (case bx_q => assumption); (case b1_q => exact rfl); (case b2_q => k_dflt k_is); (case b3_q => exact rfl); (case b4_q => exact rfl); (case b5_q => exact rfl))); (case hloc => exact locs rfl); (case ha => exact rfl); (case hb => exact rfl); (case hc => exact rfl); (case hd => decide))
  (k_with "np_enterX" => (case ho => k_dflt k_is); (case hcd => k_dflt k_is); (try (case hr => (first | omega | (dsimp only; omega)))); (case hbind => first | exact BindsTo.of_eq rfl | (refine' binds_K ?bx_q ?b1_q ?b2_q ?b3_q ?b4_q ?b5_q; (case bx_q => assumption); (case b1_q => exact rfl); (case b2_q => k_dflt k_is); (case b3_q => exact rfl); (case b4_q => exact rfl); (case b5_q => exact rfl))); (case hkd => exact rfl); (case hnd => decide +kernel); (case ha => exact rfl); (case hb => exact rfl); (case hc => exact rfl))
  trivial
theorem wNpJ1 : True := by
  (k_with "subscriptTail Name Constant ref str" => (k_here; (with_reducible show wpAny _ _ (subscriptTail _ _ (Value.ref _) (Value.str _ _)) _ _ _); k_dflt (refine kda_item (knd := PySem.strKind _ _) (by k_asm) (by k_mem) (by k_asm) (strKind_is _ _ _ _) (by rfl) ?_)))
  (k_with "compareOp Eq ref ref" => (with_reducible refine haltIt ?_))
  (k_with "call builtin:len" => (with_reducible refine haltIt ?_))
  (k_with "subscriptTail Subscript" => (with_reducible refine haltIt ?_))
  (k_with "setItem ref str" => (k_here; k_dflt (refine' kda_set (knd := PySem.strKind _ _) ?F_q ?N_q ?U_q ?d_q (strKind_is _ _ _ _) ?z_q ?_; (case F_q => k_asm); (case N_q => k_asm); (case U_q => k_updF); (case d_q => k_asm); (case z_q => rw [sizeLine_eq]; exact Nat.le_of_ble_eq_true (by with_unfolding_all rfl))); intro _ _ _ N'q _; (try dsimp only at N'q)))
  trivial
theorem item_gl {prog : Program} {w : World} {A : Around} {s : Shared} {Q E : Value → Shared → Prop} {value slice : PySem.Expr} {g : Heap} {L l : Addr} {m : Str → Option Value} {vs : List Value} {k : Int} {u : Tok} {v : Value} (F : Fr g L s.heap m) (hI : g.IsList l vs.toArray) (h0 : 0 ≤ k) (hhi : k < 2 ^ 63) (hx : vs[k.toNat]? = some v)
    (h : Q v s) (hs : subscripted slice false (.ref l) (.int k u) = operate [.ref l, .int k u] (getItem (.ref l) (.int k u)) := by with_unfolding_all rfl) :
    wpAny (model prog w) A (subscriptTail value slice (.ref l) (.int k u)) Q E s :=
  have hL : s.heap.IsList l vs.toArray := Fr.lst F hI
  tail_any hL.typeIs slot_list_getitem.lookup (wpAny_getItem_list hL h0 hhi (by simpa using hx) h) hs
section
variable {w : World} {A : Around} {s : Shared} {h₀ : Heap} {Q E : Value → Shared → Prop} {x d : Addr} {σ : St}
/-- one of the law's own streams: a list -/
noncomputable def lVs (t : Nat → Tok) (σ : St) : List Value := [.int σ.way (t 0), .int σ.low (t 1), .int σ.high (t 2), optV σ.reached (t 3), .int σ.far (t 4), .int σ.stamp (t 5)]
noncomputable def LAt (h : Heap) (a : Addr) (σ : St) : Prop := ∃ t n, h.get? a = some (listOf (lVs t σ).toArray n)
theorem LAt.up {h h' : Heap} {a : Addr} {σ : St} (l : LAt h a σ) (u : Up h h') : LAt h' a σ := let ⟨t, n, e⟩ := l; ⟨t, n, u _ _ e⟩
noncomputable def lawWay (σ : St) (b m : Int) : Int := if b = σ.high ∧ σ.way ≠ -1 then 1 else if b + m = σ.low ∧ σ.way ≠ 1 then -1 else 0
theorem law_way_spec {one : Addr} {b m : Int} {tb tm : Tok} (G : Gr w h₀) (hk : Up h₀ s.heap) (hA : A.handled = none) (hd : A.depth < recursionLimit) (hx : LAt s.heap one σ)
    (ret : ∀ h' tk t, Up s.heap h' → Q (.int (lawWay σ b m) t) {s with heap := h', toks := tk}) : wpAny (model Pg w) A (call (.ref 191) [.ref one, .int b tb, .int m tm]) Q E s := by
  obtain ⟨ah, ad, af, ag, au⟩ := A
  obtain rfl : ah = none := hA
  dsimp only at hd
  have ret' : ∀ k h' tk t, k = lawWay σ b m → Up s.heap h' → Q (.int k t) {s with heap := h', toks := tk} := fun k h' tk t e => e ▸ ret h' tk t
  obtain ⟨t, n, hx⟩ := hx
  refine' enter (D := []) (binds := [(Str.ofString "one", .ref one), (Str.ofString "begin", .int b tb), (Str.ofString "many", .int m tm)]) G hk (fun _ h => nomatch h) ?ho ?hcd ?hr ?hbind ?hloc ?_ ?ha ?hb ?hc ?hd
  walk_at "np_enter"
  intro g' L' h' mean mg mb F' N' X' T' G' kG'
  have hIL : g'.IsList one #[.int σ.way (t 0), .int σ.low (t 1), .int σ.high (t 2), optV σ.reached (t 3), .int σ.far (t 4), .int σ.stamp (t 5)] := ⟨_, kG' _ _ hx (by simp), rfl, _, rfl⟩
  try dsimp only
  k_unmd
  k_fold
  k_steps
  all_goals (rename Fr _ _ _ _ => kF)
  all_goals exact ret' _ _ _ _ (by unfold lawWay; (repeat' split) <;> omega) (up_of kG' kF)

/-- the law's own table -/
noncomputable def dKV (t : Nat → Tok) (S : Sc) (T : Addr) : List (Str × Value) := [(Str.ofString "many", .int S.many (t 0)), (Str.ofString "least", .int S.least (t 1)), (Str.ofString "streams", .ref T), (Str.ofString "stamp", .int S.stamp (t 3)), (Str.ofString "hits", .int S.hits (t 4)),
  (Str.ofString "misses", .int S.misses (t 5)), (Str.ofString "asked", .int S.asked (t 6)), (Str.ofString "greatest", .int S.greatest (t 7))]
noncomputable def DIs (w : World) (o : Obj) (S : Sc) (T : Addr) : Prop := ∃ t, o.IsDictOf (PySem.strKind Pg w) (dKV t S T)
theorem DIs.cls {w : World} {o : Obj} {S : Sc} {T : Addr} (d : DIs w o S T) : o.cls = .type "dict" := let ⟨_, _, _, e, _⟩ := d; e.1
noncomputable abbrev LEnt := Addr × St
noncomputable def refsL (ls : List LEnt) : List Value := ls.map fun e => .ref e.1
noncomputable def LsAt (h : Heap) (ls : List LEnt) : Prop := ∀ e ∈ ls, LAt h e.1 e.2
theorem LsAt.up {h h' : Heap} {ls : List LEnt} (r : LsAt h ls) (u : Up h h') : LsAt h' ls := fun e he => (r e he).up u
theorem reads_L {h : Heap} {a : Addr} {σ : St} (l : LAt h a σ) : ReadsP h (.ref a) (stL σ) := by
  obtain ⟨t, n, e⟩ := l
  exact ⟨_, .list e rfl rfl (.cons (.int _ _) (.cons (.int _ _) (.cons (.int _ _) (.cons (reads_opt _ _) (.cons (.int _ _) (.cons (.int _ _) .nil))))))⟩
theorem reads_Ls {h : Heap} : ∀ {ls : List LEnt}, LsAt h ls → ∃ as, ReadsAll h (refsL ls) (ls.map fun e => stL e.2) as
  | [], _ => ⟨_, .nil⟩
  | e :: r, hl => by
    obtain ⟨as, q⟩ := reads_Ls (ls := r) fun e he => hl e (.tail _ he)
    obtain ⟨bs, p⟩ := reads_L (hl e (.head _))
    exact ⟨_, .cons p q⟩
theorem reads_T {h : Heap} {T : Addr} {ls : List LEnt} {n : Nat} (e : h.get? T = some (listOf (refsL ls).toArray n)) (hl : LsAt h ls) : ReadsP h (.ref T) (.list (ls.map fun e => stL e.2)) := by
  obtain ⟨as, q⟩ := reads_Ls hl
  exact ⟨_, .list e rfl rfl (by simpa using q)⟩
theorem good_Ls (ls : List LEnt) : GoodD 2 (.list (ls.map fun e => stL e.2)) := GoodD.list fun d hd => by
  obtain ⟨e, _, rfl⟩ := List.mem_map.mp hd
  exact good_stL _
theorem eq_nil_L {prog : Program} {A : Around} {T l : Addr} {ls : List LEnt} {n k : Nat} (hT : s.heap.get? T = some (listOf (refsL ls).toArray n)) (hl : LsAt s.heap ls) (h0 : s.heap.get? l = some (listOf #[] k)) (hu : A.units + 64 < cLine)
    (h : Q (.bool ls.isEmpty) s) : wpAny (model prog w) A (compareOp .Eq (.ref T) (.ref l)) Q E s := by
  obtain ⟨as, r1⟩ := reads_T hT hl
  have r2 : Reads s.heap (.ref l) (.list []) [l] := .list h0 rfl rfl .nil
  refine eq_dataH r1 r2 ((good_Ls ls).shaped (by omega)) rfl hu ?_
  cases ls with
  | nil => exact h
  | cons a r => exact h
/-- the law's own table and streams -/
structure LW (w : World) (h : Heap) (D T : Addr) (S : Sc) (ls : List LEnt) (nt : Nat) : Prop where
  d : ∃ o, h.get? D = some o ∧ DIs w o S T
  l : h.get? T = some (listOf (refsL ls).toArray nt)
  e : LsAt h ls
  n : (ls.map (·.1)).Nodup
  ne : ∀ e ∈ ls, e.1 ≠ T
noncomputable def placeOf (ss : List St) (x m : Int) : Int :=
  if ss = [] ∨ x.fmod 4 = 0 then (x.fdiv 4).fmod 40 else
    match ss[((x.fdiv 4).fmod ss.length).toNat]? with
    | none => 0
    | some σ => if x.fmod 4 = 1 then σ.high else if x.fmod 4 = 2 then max 0 (σ.low - m) else σ.low
theorem len_L {prog : Program} {A : Around} {g : Heap} {L D : Addr} {news : List (Addr × Obj)} {ls : List LEnt} {c : Nat} (N : News g L s.heap news) (hm : (D, listOf (refsL ls).toArray c) ∈ news) (hf : ls.length ≤ 100) (h : Q (.int (ls.length : Nat) (s.toks + 1)) { s with toks := s.toks + 1 + 1 }) :
    wpAny (model prog w) A (call (.builtin "len") [.ref D]) Q E s :=
  KM.len_K N hm (by simp [refsL]) (by omega) h
theorem item_L {prog : Program} {A : Around} {value slice : PySem.Expr} {g : Heap} {L T : Addr} {news : List (Addr × Obj)} {ls : List LEnt} {n : Nat} {k : Int} {u : Tok} (N : News g L s.heap news) (hm : (T, listOf (refsL ls).toArray n) ∈ news) (h0 : 0 ≤ k) (h1 : k < ls.length) (hl : ls.length ≤ 100)
    (h : ∀ e, ls[k.toNat]? = some e → Q (.ref e.1) s)
    (hs : subscripted slice false (.ref T) (.int k u) = operate [.ref T, .int k u] (getItem (.ref T) (.int k u)) := by with_unfolding_all rfl) :
    wpAny (model prog w) A (subscriptTail value slice (.ref T) (.int k u)) Q E s := by
  have hL : s.heap.IsList T (refsL ls).toArray := News.isList N hm
  have hk : k.toNat < ls.length := by omega
  refine tail_any hL.typeIs slot_list_getitem.lookup (wpAny_getItem_list hL h0 (by omega) (x := .ref (ls[k.toNat]).1) (by simp [refsL, hk]) (h _ (List.getElem?_eq_getElem hk))) hs
theorem law_place_spec {D T : Addr} {S : Sc} {ls : List LEnt} {nt : Nat} {x m : Int} {tx tm : Tok} (G : Gr w h₀) (hk : Up h₀ s.heap) (hA : A.handled = none) (hd : A.depth + 4 < recursionLimit) (W : LW w s.heap D T S ls nt) (hlen : ls.length ≤ 50) (hu : A.units + 100 < cLine)
    (hfD : h₀.get? D = none) (hfT : h₀.get? T = none) (hf : ∀ e ∈ ls, h₀.get? e.1 = none)
    (ret : ∀ h' tk t, Up s.heap h' → Q (.int (placeOf (ls.map (·.2)) x m) t) {s with heap := h', toks := tk}) : wpAny (model Pg w) A (call (.ref 225) [.ref D, .int x tx, .int m tm]) Q E s := by
  obtain ⟨ah, ad, af, ag, au⟩ := A
  obtain rfl : ah = none := hA
  dsimp only at hd hu
  have ret' : ∀ k h' tk t, k = placeOf (ls.map (·.2)) x m → Up s.heap h' → Q (.int k t) {s with heap := h', toks := tk} := fun k h' tk t e => e ▸ ret h' tk t
  obtain ⟨⟨oD, hD, hoD⟩, hT, hE, hnd, hne⟩ := W
  have hDT : @Ne Nat D T := ne_of_cls hD hT (by rw [hoD.cls]; simp)
  obtain ⟨t, hoD⟩ := hoD
  refine' enter (D := [(D, oD), (T, listOf (refsL ls).toArray nt)]) (binds := [(Str.ofString "state", .ref D), (Str.ofString "x", .int x tx), (Str.ofString "many", .int m tm)]) G hk (List.forall_mem_cons.mpr ⟨⟨hD, hfD⟩, List.forall_mem_singleton.mpr ⟨hT, hfT⟩⟩) ?ho ?hcd ?hr ?hbind ?hloc ?_ ?ha ?hb ?hc ?hd
  walk_at "np_enter"
  intro g' L' h' mean mg mb F' N' X' T' G' kG'
  try dsimp only
  k_unmd
  k_fold
  have hEg : LsAt g' ls := fun e he => by
    obtain ⟨t, n, a⟩ := hE e he
    refine ⟨t, n, kG' _ _ a ?_⟩
    simp only [List.map_cons, List.map_nil, List.mem_cons, List.not_mem_nil, or_false]
    rintro (h | h)
    · exact ne_of_cls a hD (by rw [DIs.cls ⟨_, hoD⟩]; simp) h
    · exact hne e he h
  k_steps
  rename Fr _ _ _ _ => cF; rename News _ _ _ _ => cN
  refine Halt.mk ?_
  refine eq_nil_L (cN.get (by k_mem)) (hEg.up cF.keep) (cN.get (.head _)) (by simp only [units_deeper]; omega) ?_
  rcases ls with _ | ⟨l0, lr⟩
  · dsimp only [List.isEmpty]
    k_steps
    rename Fr _ _ _ _ => kF; rename News _ _ _ _ => kN
    exact ret' _ _ _ _ (by simp [placeOf]) (up_of_news kG' kF kN (List.forall_mem_cons.mpr ⟨hD, List.forall_mem_singleton.mpr hT⟩) (List.forall_mem_cons.mpr ⟨by k_mem, List.forall_mem_singleton.mpr (by k_mem)⟩))
  · dsimp only [List.isEmpty]
    have hl1 : 1 ≤ (l0 :: lr).length := by simp
    k_steps
    · rename Fr _ _ _ _ => kF; rename News _ _ _ _ => kN
      exact ret' _ _ _ _ (by simp [placeOf, *]) (up_of_news kG' kF kN (List.forall_mem_cons.mpr ⟨hD, List.forall_mem_singleton.mpr hT⟩) (List.forall_mem_cons.mpr ⟨by k_mem, List.forall_mem_singleton.mpr (by k_mem)⟩))
    · rename Fr _ _ _ _ => cF; rename News _ _ _ _ => cN
      refine Halt.mk ?_
      refine' len_L (ls := l0 :: lr) ?N ?m ?f ?_
      case N => exact cN
      case m => k_mem
      case f => omega
      try dsimp only
      k_steps
      rename Fr _ _ _ _ => cF2; rename News _ _ _ _ => cN2
      refine Halt.mk ?_
      refine' item_L (ls := l0 :: lr) ?N ?m ?a ?b ?f ?_
      case N => exact cN2
      case m => k_mem
      case a => exact Int.fmod_nonneg_of_pos _ (by omega)
      case b => exact Int.fmod_lt_of_pos _ (by omega)
      case f => omega
      intro e he
      obtain ⟨te, ne, hxe⟩ := hEg e (List.mem_of_getElem? he)
      obtain ⟨one, σ⟩ := e
      dsimp only at hxe
      have hIL : g'.IsList one #[.int σ.way (te 0), .int σ.low (te 1), .int σ.high (te 2), optV σ.reached (te 3), .int σ.far (te 4), .int σ.stamp (te 5)] := ⟨_, hxe, rfl, _, rfl⟩
      have hpl : placeOf ((l0 :: lr).map (·.2)) x m = if x.fmod 4 = 0 then (x.fdiv 4).fmod 40 else if x.fmod 4 = 1 then σ.high else if x.fmod 4 = 2 then max 0 (σ.low - m) else σ.low := by
        unfold placeOf
        rw [List.length_map, List.getElem?_map, he]
        simp
      rw [hpl] at ret'
      clear hpl
      try dsimp only
      k_steps
      all_goals (rename Fr _ _ _ _ => kF; rename News _ _ _ _ => kN)
      all_goals exact ret' _ _ _ _ (by (repeat' split) <;> omega) (up_of_news kG' kF kN (List.forall_mem_cons.mpr ⟨hD, List.forall_mem_singleton.mpr hT⟩) (List.forall_mem_cons.mpr ⟨by k_mem, List.forall_mem_singleton.mpr (by k_mem)⟩))
end
end

section
theorem offNpK : True := by w_top off; trivial
theorem wNpK0 : True := by
  k_with_none
  (k_with "np_omega" => (first
      | (with_reducible assumption)
      | omega -splitDisjunctions
      | ((with_reducible show @Ne Nat _ _); with_reducible refine Ne.symm ?_; with_reducible assumption)
      | (refine Nat.le_antisymm ?_ ?_ <;> omega -splitDisjunctions)
      | (refine Int.le_antisymm ?_ ?_ <;> omega -splitDisjunctions)
      | omega +splitDisjunctions))
  (k_with "np_mm" => (first
      | (simp (disch := (first | assumption | exact Int.le_of_lt (by assumption) | exact Int.not_lt.mp (by assumption) | omega)) only [Int.max_eq_right, Int.max_eq_left, Int.min_eq_right, Int.min_eq_left]; done)
      | omega))
  (k_with "np_lt" => (k_dflt (repeat (intro _)); k_dflt (refine Got.mk ?_)))
  (k_with "np_ne" => (first
      | (with_reducible refine Nat.ne_of_lt ?_; with_reducible assumption)
      | (with_reducible refine Nat.ne_of_gt ?_; with_reducible assumption)
      | (with_reducible assumption)
      | (with_reducible refine Ne.symm ?_; with_reducible assumption)
      | (refine neN ?_; (try dsimp only); omega)))
  (k_with "np_mem" => (first
      | ((repeat' (with_reducible first | exact List.Mem.head _ | refine List.Mem.tail _ ?_)); done)
      | (with_reducible assumption)
      | assumption))
  (k_with "ite" => (k_closed; k_dflt (first | refine ite_pos (by decide) ?_ | refine ite_neg (by decide) ?_)))
  (k_with "callWith ref" => (k_here; k_dflt (first | (refine' callWith_K ?k1_q ?k2_q ?_; (case k1_q => k_asm); (case k2_q => k_is); k_whole) | (refine' callWith_K0 ?k1_q ?k2_q ?_; (case k1_q => exact Frag.In.keeps (by k_asm) (Fr.keep (by k_asm))); (case k2_q => k_is); k_whole))))
  (k_with "CompEnd" => (with_reducible refine haltIt ?_))
  (k_with "CompSrc" => (with_reducible refine haltIt ?_))
  (k_with "CompSrcT" => (with_reducible refine haltIt ?_))
  (k_with "np_inst" => (first
      | (refine' InstAt.of_base ?F_q ?h1_q ?h2_q; (case F_q => k_asm); (case h1_q => k_asm); (case h2_q => k_asm))
      | (refine' InstAt.of_mixed ?F_q ?h1_q ?N_q ?h2_q; (case F_q => k_asm); (case h1_q => k_asm); (case N_q => k_asm); (case h2_q => k_mem))))
  (k_with "execs cons" => (k_here; (try (with_reducible refine gentok ?_; intro _)); (with_reducible refine wpAny_execs_cons ?_); (try dsimp only); (try k_fold)))
  (k_with "execs nil" => (k_here; with_reducible refine gentok ?_; intro _))
  (k_with "subscriptTail Name Constant ref int" => (k_here; (with_reducible show wpAny _ _ (subscriptTail _ _ (Value.ref _) (Value.int _ _)) _ _ _); k_dflt (refine' item_gl ?F_q ?I_q ?a_q ?b_q ?x_q ?_ ?hs_q; (case F_q => k_asm); (case I_q => with_reducible assumption); (case a_q => decide); (case b_q => decide); (case x_q => rfl); (case hs_q => with_unfolding_all rfl); k_whole)))
  (k_with "np_handed" => (exact handed_opt _ _))
  (k_with "np_enter" => (case ho => k_dflt k_is); (case hcd => k_dflt k_is); (try (case hr => (first | omega | (dsimp only; omega)))); (case hbind => first | exact BindsTo.of_eq rfl | (refine' binds_K ?bx_q ?b1_q ?b2_q ?b3_q ?b4_q ?b5_q; (case bx_q => assumption); (case b1_q => exact rfl); (case b2_q => k_dflt k_is); (case b3_q => exact rfl); (case b4_q => exact rfl); (case b5_q => exact rfl))); (case hloc => exact locs rfl); (case ha => exact rfl); (case hb => exact rfl); (case hc => exact rfl); (case hd => decide))
  (k_with "np_enterX" => (case ho => k_dflt k_is); (case hcd => k_dflt k_is); (try (case hr => (first | omega | (dsimp only; omega)))); (case hbind => first | exact BindsTo.of_eq rfl | (refine' binds_K ?bx_q ?b1_q ?b2_q ?b3_q ?b4_q ?b5_q; (case bx_q => assumption); (case b1_q => exact rfl); (case b2_q => k_dflt k_is); (case b3_q => exact rfl); (case b4_q => exact rfl); (case b5_q => exact rfl))); (case hkd => exact rfl); (case hnd => decide +kernel); (case ha => exact rfl); (case hb => exact rfl); (case hc => exact rfl))
  trivial
theorem wNpK1 : True := by
  (k_with "call type:tuple" => (k_here; (with_reducible show wpAny _ _ (call (Value.type _) [Value.ref _]) _ _ _); k_dflt (refine' kde_tupleOf ?k1_q ?k2_q ?k3_q ?k4_q ?k5_q ?_; (case k1_q => k_asm); (case k2_q => k_asm); (case k3_q => first | exact Fr.lst (by k_asm) (by assumption) | exact News.isList (by k_asm) (by k_mem)); (case k4_q => exact Nat.le_of_ble_eq_true rfl); (case k5_q => kun_lit); k_whole); intro _ _ _ _ l1q; (try k_lt l1q); (try k_sweep)))
  (k_with "subscriptTail Name Constant ref str" => (k_here; (with_reducible show wpAny _ _ (subscriptTail _ _ (Value.ref _) (Value.str _ _)) _ _ _); k_dflt (refine kda_item (knd := PySem.strKind _ _) (by k_asm) (by k_mem) (by k_asm) (strKind_is _ _ _ _) (by rfl) ?_)))
  (k_with "setItem ref str" => (k_here; k_dflt (refine' kda_set (knd := PySem.strKind _ _) ?F_q ?N_q ?U_q ?d_q (strKind_is _ _ _ _) ?z_q ?_; (case F_q => k_asm); (case N_q => k_asm); (case U_q => k_updF); (case d_q => k_asm); (case z_q => rw [sizeLine_eq]; exact Nat.le_of_ble_eq_true (by with_unfolding_all rfl))); intro _ _ _ N'q _; (try dsimp only at N'q)))
  (k_with "eval ListComp" => (k_here; first | (lct_look; k_dflt (refine LCt.ListComp_T (F₀ := by k_asm) (by with_unfolding_all rfl) (by decide) (by rfl) (by decide) (by rfl) ?_)) | ((with_reducible show wpAny _ _ (eval (Expr.ListComp _ [Comprehension.mk _ _ [] _] _ _) _) _ _ _); k_dflt (refine LCg.ListComp_U (F₀ := by k_asm) (by with_unfolding_all rfl) (by decide) (by rfl) (by decide) (by rfl) ?_))))
  trivial
section
variable {w : World} {A : Around} {s : Shared} {h₀ : Heap} {Q E : Value → Shared → Prop} {x d : Addr} {σ : St}
theorem LW.base {w : World} {s g : Heap} {D T : Addr} {S : Sc} {ls : List LEnt} {nt : Nat} {oD oT : Obj} (W : LW w s D T S ls nt) (kG : GSub s g [D, T]) : LsAt g ls := fun e he => by
  obtain ⟨⟨oD, hD, hoD⟩, hT, hE, hnd, hne⟩ := W
  obtain ⟨t, n, a⟩ := hE e he
  refine ⟨t, n, kG _ _ a ?_⟩
  simp only [List.mem_cons, List.not_mem_nil, or_false]
  rintro (h | h)
  · exact ne_of_cls a hD (by rw [hoD.cls]; simp) h
  · exact hne e he h
theorem law_plain_spec {D T : Addr} {S : Sc} {ls : List LEnt} {nt : Nat} (G : Gr w h₀) (hk : Up h₀ s.heap) (hA : A.handled = none) (hd : A.depth + 4 < recursionLimit) (W : LW w s.heap D T S ls nt) (hlen : ls.length ≤ 50)
    (hfD : h₀.get? D = none) (hfT : h₀.get? T = none)
    (ret : ∀ h' tk c, Up s.heap h' → s.heap.get? c = none → ReadsP h' (.ref c) (plainP S (ls.map (·.2))) → Q (.ref c) {s with heap := h', toks := tk}) : wpAny (model Pg w) A (call (.ref 208) [.ref D]) Q E s := by
  obtain ⟨ah, ad, af, ag, au⟩ := A
  obtain rfl : ah = none := hA
  dsimp only at hd
  have W' := W
  obtain ⟨⟨oD, hD, hoD⟩, hT, hE, hnd, hne⟩ := W
  have hDT : @Ne Nat D T := ne_of_cls hD hT (by rw [hoD.cls]; simp)
  have hcD := hoD.cls
  obtain ⟨t, hoD⟩ := hoD
  refine' enter (D := [(D, oD), (T, listOf (refsL ls).toArray nt)]) (binds := [(Str.ofString "state", .ref D)]) G hk (List.forall_mem_cons.mpr ⟨⟨hD, hfD⟩, List.forall_mem_singleton.mpr ⟨hT, hfT⟩⟩) ?ho ?hcd ?hr ?hbind ?hloc ?_ ?ha ?hb ?hc ?hd
  walk_at "np_enter"
  intro g' L' h' mean mg mb F' N' X' T' G' kG'
  have hEg : LsAt g' ls := W'.base (oD := oD) (oT := oD) kG'
  try dsimp only
  k_unmd
  k_fold
  k_steps
  rename Fr _ _ _ _ => kF; rename News _ _ _ _ => kN
  refine Halt.mk ?_
  refine LCg.CompSrc.ledger rfl kF kN (.tail _ (.head _)) (by rw [sizeLine_eq]; simp only [refsL, List.size_toArray, List.length_map]; omega) (fun h1 => comp_rest (α := LEnt) (f := fun e => .ref e.1) (l₀ := ls)
    (fun r ys n => Hold ((T, listOf (refsL ls).toArray nt) ∈ n ∧ (D, oD) ∈ n ∧ ∃ dn, ls = dn ++ r ∧ All2 (TupIn n) (dn.map (·.2)) ys)) ?turn ?fin (Hold.mk ⟨.tail _ (.head _), .head _, [], rfl, .nil⟩))
  case turn =>
    rintro ⟨x, σ⟩ r ys n I oI C oC D2 m₂ h tk E' ⟨hn, hn2, dn, hdn, hys⟩ hC hx F' N' off ne
    obtain ⟨te, ne', hxe⟩ := hEg (x, σ) (by rw [hdn]; simp)
    dsimp only at hxe
    have hIL : g'.IsList x #[.int σ.way (te 0), .int σ.low (te 1), .int σ.high (te 2), optV σ.reached (te 3), .int σ.far (te 4), .int σ.stamp (te 5)] := ⟨_, hxe, rfl, _, rfl⟩
    clear kF kN
    k_unmd
    try k_fold
    k_steps
    rename Fr _ _ _ _ => kF; rename News _ _ _ _ => kN; rename_i r2 h2; have l2 := l1q
    refine Halt.mk (LCg.CompEnd.intro kF kN ((r2, stObj te σ) :: n) ?sub ?off (.inr ⟨_, .tail _ hn, rfl, _, rfl⟩) (Hold.mk ⟨.tail _ hn, .tail _ hn2, dn ++ [(x, σ)], by rw [hdn]; simp, ?all⟩))
    case all =>
      rw [List.map_append]
      exact (hys.imp fun _ _ ⟨a, t, e, hm⟩ => ⟨a, t, e, .tail _ hm⟩).snoc ⟨_, _, rfl, .head _⟩
    case sub =>
      intro p hp
      simp only [List.mem_cons] at hp ⊢
      rcases hp with h | h | h | h | h <;> simp [h, stObj]
    case off => exact ⟨⟨by omega, by omega, by omega⟩, off⟩
  case fin =>
    clear kF kN
    rintro ys n ⟨hn, hn2, dn, hdn, hys⟩ D2 h tk F' N' off
    rw [List.append_nil] at hdn
    subst hdn
    have hyl := hys.len
    rw [List.length_map] at hyl
    try dsimp only
    k_unmd
    try k_fold
    k_steps
    rename Fr _ _ _ _ => kF; rename News _ _ _ _ => kN
    obtain ⟨as, hrd⟩ := readsAll_tups (n := n) kN (fun p hp => by simp [hp]) hys
    refine ret _ _ _ (up_of_news kG' kF kN (List.forall_mem_cons.mpr ⟨hD, List.forall_mem_singleton.mpr hT⟩) (List.forall_mem_cons.mpr ⟨by simp [hn2], List.forall_mem_singleton.mpr (by simp [hn])⟩)) (none_but kG' kN (.head _) ?_) ⟨_, .tuple (kN.get (.head _)) rfl rfl (.cons (.tuple (kN.get (.tail _ (.head _))) rfl rfl (by rw [List.map_map] at hrd; simpa using hrd)) (.cons (.int _ _) (.cons (.int _ _) (.cons (.int _ _) (.cons (.int _ _) .nil)))))⟩
    refine nm2 (ne_of_cls (kN.get (by simp [hn2] : (D, oD) ∈ _)) (kN.get (.head _)) (by rw [hcD]; simp)) (ne_of_cls (kN.get (by simp [hn] : (T, listOf (refsL ls).toArray nt) ∈ _)) (kN.get (.head _)) (by simp))
end
end

section
theorem offNpL : True := by w_top off; trivial
theorem wNpL0 : True := by
  k_with_none
  (k_with "np_omega" => (first
      | (with_reducible assumption)
      | omega -splitDisjunctions
      | ((with_reducible show @Ne Nat _ _); with_reducible refine Ne.symm ?_; with_reducible assumption)
      | (refine Nat.le_antisymm ?_ ?_ <;> omega -splitDisjunctions)
      | (refine Int.le_antisymm ?_ ?_ <;> omega -splitDisjunctions)
      | omega +splitDisjunctions))
  (k_with "np_mm" => (first
      | (simp (disch := (first | assumption | exact Int.le_of_lt (by assumption) | exact Int.not_lt.mp (by assumption) | omega)) only [Int.max_eq_right, Int.max_eq_left, Int.min_eq_right, Int.min_eq_left]; done)
      | omega))
  (k_with "np_lt" => (k_dflt (repeat (intro _)); k_dflt (refine Got.mk ?_)))
  (k_with "np_ne" => (first
      | (with_reducible refine Nat.ne_of_lt ?_; with_reducible assumption)
      | (with_reducible refine Nat.ne_of_gt ?_; with_reducible assumption)
      | (with_reducible assumption)
      | (with_reducible refine Ne.symm ?_; with_reducible assumption)
      | (refine neN ?_; (try dsimp only); omega)))
  (k_with "np_mem" => (first
      | ((repeat' (with_reducible first | exact List.Mem.head _ | refine List.Mem.tail _ ?_)); done)
      | (with_reducible assumption)
      | assumption))
  (k_with "ite" => (k_closed; k_dflt (first | refine ite_pos (by decide) ?_ | refine ite_neg (by decide) ?_)))
  (k_with "callWith ref" => (k_here; k_dflt (first | (refine' callWith_K ?k1_q ?k2_q ?_; (case k1_q => k_asm); (case k2_q => k_is); k_whole) | (refine' callWith_K0 ?k1_q ?k2_q ?_; (case k1_q => exact Frag.In.keeps (by k_asm) (Fr.keep (by k_asm))); (case k2_q => k_is); k_whole))))
  (k_with "CompEnd" => (with_reducible refine haltIt ?_))
  (k_with "CompSrc" => (with_reducible refine haltIt ?_))
  (k_with "CompSrcT" => (with_reducible refine haltIt ?_))
  (k_with "np_inst" => (first
      | (refine' InstAt.of_base ?F_q ?h1_q ?h2_q; (case F_q => k_asm); (case h1_q => k_asm); (case h2_q => k_asm))
      | (refine' InstAt.of_mixed ?F_q ?h1_q ?N_q ?h2_q; (case F_q => k_asm); (case h1_q => k_asm); (case N_q => k_asm); (case h2_q => k_mem))))
  (k_with "np_let" => ((try ((with_reducible rename News _ _ _ _ => cN'q); (fail_if_success (have := lacksIt cN'q (by goal_lacks List.cons; exact fun _ => trivial))); refine news_let cN'q ?_; clear cN'q; intro _ cN'q)); (try ((with_reducible rename Fr _ _ _ _ => cF'q); (fail_if_success (have := lacksIt cF'q (by goal_lacks Option.some; exact fun _ => trivial))); refine fr_let cF'q ?_; clear cF'q; intro _ cF'q))))
  (k_with "getItem ref str" => (k_here; (with_reducible show wpAny _ _ (getItem (Value.ref _) (Value.str _ _)) _ _ _); k_dflt (refine kdt_getItem (knd := PySem.strKind _ _) (by k_asm) (by k_mem) (by k_asm) (strKind_is _ _ _ _) (by rfl) ?_)))
  (k_with "execs cons" => (k_here; (try (with_reducible refine gentok ?_; intro _)); walk_at "np_let"; (with_reducible refine wpAny_execs_cons ?_); (try dsimp only); (try k_fold)))
  (k_with "execs nil" => (k_here; with_reducible refine gentok ?_; intro _))
  (k_with "exec Assign cons ListComp" => (walk_at "exec Assign"))
  (k_with "subscriptTail Name Constant ref int" => (k_here; (with_reducible show wpAny _ _ (subscriptTail _ _ (Value.ref _) (Value.int _ _)) _ _ _); k_dflt (refine' item_gl ?F_q ?I_q ?a_q ?b_q ?x_q ?_ ?hs_q; (case F_q => k_asm); (case I_q => with_reducible assumption); (case a_q => decide); (case b_q => decide); (case x_q => rfl); (case hs_q => with_unfolding_all rfl); k_whole)))
  (k_with "np_handed" => (exact handed_opt _ _))
  (k_with "np_enter" => (case ho => k_dflt k_is); (case hcd => k_dflt k_is); (try (case hr => (first | omega | (dsimp only; omega)))); (case hbind => first | exact BindsTo.of_eq rfl | (refine' binds_K ?bx_q ?b1_q ?b2_q ?b3_q ?b4_q ?b5_q; (case bx_q => assumption); (case b1_q => exact rfl); (case b2_q => k_dflt k_is); (case b3_q => exact rfl); (case b4_q => exact rfl); (case b5_q => exact rfl))); (case hloc => exact locs rfl); (case ha => exact rfl); (case hb => exact rfl); (case hc => exact rfl); (case hd => decide))
  (k_with "np_enterX" => (case ho => k_dflt k_is); (case hcd => k_dflt k_is); (try (case hr => (first | omega | (dsimp only; omega)))); (case hbind => first | exact BindsTo.of_eq rfl | (refine' binds_K ?bx_q ?b1_q ?b2_q ?b3_q ?b4_q ?b5_q; (case bx_q => assumption); (case b1_q => exact rfl); (case b2_q => k_dflt k_is); (case b3_q => exact rfl); (case b4_q => exact rfl); (case b5_q => exact rfl))); (case hkd => exact rfl); (case hnd => decide +kernel); (case ha => exact rfl); (case hb => exact rfl); (case hc => exact rfl))
  trivial
noncomputable def tPut (t : Nat → Tok) (k : Nat) (u : Tok) : Nat → Tok := fun i => if i = k then u else t i
theorem stored_streams (t : Nat → Tok) (S : Sc) (T T' : Addr) : stored (dKV t S T) (Str.ofString "streams") (.ref T') = dKV t S T' := by with_unfolding_all rfl
theorem stored_stamp (t : Nat → Tok) (S : Sc) (T : Addr) (v : Int) (u : Tok) : stored (dKV t S T) (Str.ofString "stamp") (.int v u) = dKV (tPut t 3 u) { S with stamp := v } T := by with_unfolding_all rfl
theorem stored_hits (t : Nat → Tok) (S : Sc) (T : Addr) (v : Int) (u : Tok) : stored (dKV t S T) (Str.ofString "hits") (.int v u) = dKV (tPut t 4 u) { S with hits := v } T := by with_unfolding_all rfl
theorem stored_misses (t : Nat → Tok) (S : Sc) (T : Addr) (v : Int) (u : Tok) : stored (dKV t S T) (Str.ofString "misses") (.int v u) = dKV (tPut t 5 u) { S with misses := v } T := by with_unfolding_all rfl
theorem stored_asked (t : Nat → Tok) (S : Sc) (T : Addr) (v : Int) (u : Tok) : stored (dKV t S T) (Str.ofString "asked") (.int v u) = dKV (tPut t 6 u) { S with asked := v } T := by with_unfolding_all rfl
theorem wNpL2 : True := by
  (k_with "subscriptTail Name Constant ref str" => (k_here; (with_reducible show wpAny _ _ (subscriptTail _ _ (Value.ref _) (Value.str _ _)) _ _ _); k_dflt (refine kda_item (knd := PySem.strKind _ _) (by k_asm) (by k_mem) (by k_asm) (strKind_is _ _ _ _) (by rfl) ?_)))
  (k_with "setItem ref str" => (k_here; k_dflt (refine' kda_set (knd := PySem.strKind _ _) ?F_q ?N_q ?U_q ?d_q (strKind_is _ _ _ _) ?z_q ?_; (case F_q => k_asm); (case N_q => k_asm); (case U_q => k_updF); (case d_q => k_asm); (case z_q => rw [sizeLine_eq]; exact Nat.le_of_ble_eq_true (by with_unfolding_all rfl))); intro _ _ _ N'q hd'q; (try simp only [stored_streams, stored_stamp, stored_hits, stored_misses, stored_asked] at hd'q); (try dsimp only at N'q)))
  (k_with "eval ListComp" => (k_here; first | (lct_look; k_dflt (refine LCt.ListComp_T (F₀ := by k_asm) (by with_unfolding_all rfl) (by decide) (by rfl) (by decide) (by rfl) ?_)) | ((with_reducible show wpAny _ _ (eval (Expr.ListComp _ [Comprehension.mk _ _ [] _] _ _) _) _ _ _); k_dflt (refine LCg.ListComp_U (F₀ := by k_asm) (by with_unfolding_all rfl) (by decide) (by rfl) (by decide) (by rfl) ?_))))
  (k_with "call builtin:len" => (k_here; (with_reducible show wpAny _ _ (call (Value.builtin "len") [Value.ref _]) _ _ _); (refine' len_L ?N_q ?m_q ?f_q ?_; (case N_q => k_asm); (case m_q => k_mem); (case f_q => with_reducible assumption))))
  trivial
section
variable {w : World} {A : Around} {s : Shared} {h₀ : Heap} {Q E : Value → Shared → Prop} {x d : Addr} {σ : St}
theorem law_age_spec {D T : Addr} {S : Sc} {ls : List LEnt} {nt : Nat} {st : Int} {tm : Tok} (G : Gr w h₀) (hk : Up h₀ s.heap) (hA : A.handled = none) (hd : A.depth + 8 < recursionLimit)
    (W : LW w s.heap D T S ls nt) (hlen : ls.length ≤ 50) (hfD : h₀.get? D = none) (hfT : h₀.get? T = none)
    (ret : ∀ h' tk T' o k t, KeepBut [D] s.heap h' → s.heap.get? T' = none → h'.get? D = some o → DIs w o S T' → h'.get? T' = some (listOf (refsL (ls.filter fun e => decide (S.stamp < e.2.stamp + st))).toArray k) →
      Q (.int ((ls.length : Int) - ((ls.filter fun e => decide (S.stamp < e.2.stamp + st)).length : Int)) t) {s with heap := h', toks := tk}) :
    wpAny (model Pg w) A (call (.ref 218) [.ref D, .int st tm]) Q E s := by
  obtain ⟨ah, ad, af, ag, au⟩ := A
  obtain rfl : ah = none := hA
  dsimp only at hd
  have W' := W
  obtain ⟨⟨oD, hD, hoD⟩, hT, hE, hnd, hne⟩ := W
  have hDT : @Ne Nat D T := ne_of_cls hD hT (by rw [hoD.cls]; simp)
  have hcD := hoD.cls
  obtain ⟨t, hoD⟩ := hoD
  refine' enterX (D := [(D, oD), (T, listOf (refsL ls).toArray nt)]) (binds := [(Str.ofString "state", .ref D), (Str.ofString "stamps", .int st tm)]) G hk (List.forall_mem_cons.mpr ⟨⟨hD, hfD⟩, List.forall_mem_singleton.mpr ⟨hT, hfT⟩⟩) ?ho ?hcd ?hr ?hbind ?hkd ?hnd ?_ ?ha ?hb ?hc
  walk_at "np_enterX"
  intro g' L' h' tk0 mean mg mb cells F' N' Y' l1 X' T' G' kG'
  have hEg : LsAt g' ls := W'.base (oD := oD) (oT := oD) kG'
  have hlen2 : ls.length ≤ 100 := by omega
  obtain ⟨ls1, hls1⟩ : ∃ ls1, ls1 = ls.filter fun e => decide (S.stamp < e.2.stamp + st) := ⟨_, rfl⟩
  have hlen3 : ls1.length ≤ 100 := by have := List.length_filter_le (fun e : LEnt => decide (S.stamp < e.2.stamp + st)) ls; rw [hls1]; omega
  rw [← hls1] at ret
  k_cells Y'
  rename_i o1 o2 e1 e2
  simp only [List.cons_append, List.nil_append] at N'
  k_lt l1
  try dsimp only
  k_unmd
  k_fold
  k_steps
  rename Fr _ _ _ _ => kF; rename News _ _ _ _ => kN
  refine Halt.mk ?_
  refine LCt.CompSrcT.ledger rfl kF kN (.tail _ (.tail _ (.tail _ (.head _)))) (by rw [sizeLine_eq]; simp only [refsL, List.size_toArray, List.length_map]; omega) (fun h1 => comp_restT (α := LEnt) (f := fun e => .ref e.1) (l₀ := ls)
    (fun r ys n => Hold (n = [(L' + 1 + 1, o1), (L' + 1, o2), (D, oD), (T, listOf (refsL ls).toArray nt)] ∧ ∃ dn, ls = dn ++ r ∧ ys = refsL (dn.filter fun e => decide (S.stamp < e.2.stamp + st)))) ?turn ?fin (Hold.mk ⟨rfl, [], rfl, rfl⟩))
  case turn =>
    rintro ⟨y, ρ⟩ r ys n I oI C oC D2 m₂ h tk E' ⟨rfl, dn, hdn, rfl⟩ hC hx F' N' off ne
    obtain ⟨te, ne', hxe⟩ := hEg (y, ρ) (by rw [hdn]; simp)
    dsimp only at hxe
    have hIL : g'.IsList y #[.int ρ.way (te 0), .int ρ.low (te 1), .int ρ.high (te 2), optV ρ.reached (te 3), .int ρ.far (te 4), .int ρ.stamp (te 5)] := ⟨_, hxe, rfl, _, rfl⟩
    clear kF kN
    k_unmd
    try k_fold
    k_steps
    all_goals (rename Fr _ _ _ _ => kF; rename News _ _ _ _ => kN)
    all_goals exact Halt.mk (LCg.CompEnd.intro kF kN _ (fun p hp => hp) off (.inr ⟨_, by k_mem, rfl, _, rfl⟩) (Hold.mk ⟨rfl, dn ++ [(y, ρ)], by rw [hdn]; simp, by simp [refsL, List.filter_append, *]⟩))
  case fin =>
    clear kF kN
    rintro ys n ⟨rfl, dn, hdn, rfl⟩ D2 h tk F' N' off
    rw [List.append_nil] at hdn
    subst hdn
    rw [← hls1] at N'
    (refine offTo off ?_; clear off; walk_at "np_lt")
    try dsimp only
    k_unmd
    try k_fold
    k_steps
    rename Fr _ _ _ _ => kF; rename News _ _ _ _ => kN
    refine ret _ _ D2 _ _ _ ?_ ?_ (kN.get (by k_mem)) ⟨_, by assumption⟩ (kN.get (.head _))
    · exact keepBut_news kG' kF kN (List.forall_mem_cons.mpr ⟨hD, List.forall_mem_singleton.mpr hT⟩) (List.forall_mem_cons.mpr ⟨.inl (.head _), List.forall_mem_singleton.mpr (.inr (by k_mem))⟩)
    · exact none_but kG' kN (.head _) (nm2 (by omega) (by omega))
end
end

section
theorem offNpM : True := by w_top off; trivial
theorem wNpM0 : True := by
  k_with_none
  (k_with "np_omega" => (first
      | (with_reducible assumption)
      | omega -splitDisjunctions
      | ((with_reducible show @Ne Nat _ _); with_reducible refine Ne.symm ?_; with_reducible assumption)
      | (refine Nat.le_antisymm ?_ ?_ <;> omega -splitDisjunctions)
      | (refine Int.le_antisymm ?_ ?_ <;> omega -splitDisjunctions)
      | omega +splitDisjunctions))
  (k_with "np_mm" => (first
      | (simp (disch := (first | assumption | exact Int.le_of_lt (by assumption) | exact Int.not_lt.mp (by assumption) | omega)) only [Int.max_eq_right, Int.max_eq_left, Int.min_eq_right, Int.min_eq_left]; done)
      | omega))
  (k_with "np_lt" => (k_dflt (repeat (intro _)); k_dflt (refine Got.mk ?_)))
  (k_with "np_ne" => (first
      | (with_reducible refine Nat.ne_of_lt ?_; with_reducible assumption)
      | (with_reducible refine Nat.ne_of_gt ?_; with_reducible assumption)
      | (with_reducible assumption)
      | (with_reducible refine Ne.symm ?_; with_reducible assumption)
      | (refine neN ?_; (try dsimp only); omega)))
  (k_with "np_mem" => (first
      | ((repeat' (with_reducible first | exact List.Mem.head _ | refine List.Mem.tail _ ?_)); done)
      | (with_reducible assumption)
      | assumption))
  (k_with "ite" => (k_closed; k_dflt (first | refine ite_pos (by decide) ?_ | refine ite_neg (by decide) ?_)))
  (k_with "callWith ref" => (k_here; k_dflt (first | (refine' callWith_K ?k1_q ?k2_q ?_; (case k1_q => k_asm); (case k2_q => k_is); k_whole) | (refine' callWith_K0 ?k1_q ?k2_q ?_; (case k1_q => exact Frag.In.keeps (by k_asm) (Fr.keep (by k_asm))); (case k2_q => k_is); k_whole))))
  (k_with "CompEnd" => (with_reducible refine haltIt ?_))
  (k_with "CompSrc" => (with_reducible refine haltIt ?_))
  (k_with "CompSrcT" => (with_reducible refine haltIt ?_))
  (k_with "np_inst" => (first
      | (refine' InstAt.of_base ?F_q ?h1_q ?h2_q; (case F_q => k_asm); (case h1_q => k_asm); (case h2_q => k_asm))
      | (refine' InstAt.of_mixed ?F_q ?h1_q ?N_q ?h2_q; (case F_q => k_asm); (case h1_q => k_asm); (case N_q => k_asm); (case h2_q => k_mem))))
  (k_with "execs cons" => (k_here; (try (with_reducible refine gentok ?_; intro _)); (with_reducible refine wpAny_execs_cons ?_); (try dsimp only); (try k_fold)))
  (k_with "execs nil" => (k_here; with_reducible refine gentok ?_; intro _))
  (k_with "exec Assign cons ListComp" => (walk_at "exec Assign"))
  (k_with "subscriptTail Name Constant ref int" => (k_here; (with_reducible show wpAny _ _ (subscriptTail _ _ (Value.ref _) (Value.int _ _)) _ _ _); k_dflt (refine' item_gl ?F_q ?I_q ?a_q ?b_q ?x_q ?_ ?hs_q; (case F_q => k_asm); (case I_q => with_reducible assumption); (case a_q => decide); (case b_q => decide); (case x_q => rfl); (case hs_q => with_unfolding_all rfl); k_whole)))
  (k_with "np_handed" => (exact handed_opt _ _))
  (k_with "np_enter" => (case ho => k_dflt k_is); (case hcd => k_dflt k_is); (try (case hr => (first | omega | (dsimp only; omega)))); (case hbind => first | exact BindsTo.of_eq rfl | (refine' binds_K ?bx_q ?b1_q ?b2_q ?b3_q ?b4_q ?b5_q; (case bx_q => assumption); (case b1_q => exact rfl); (case b2_q => k_dflt k_is); (case b3_q => exact rfl); (case b4_q => exact rfl); (case b5_q => exact rfl))); (case hloc => exact locs rfl); (case ha => exact rfl); (case hb => exact rfl); (case hc => exact rfl); (case hd => decide))
  (k_with "np_enterX" => (case ho => k_dflt k_is); (case hcd => k_dflt k_is); (try (case hr => (first | omega | (dsimp only; omega)))); (case hbind => first | exact BindsTo.of_eq rfl | (refine' binds_K ?bx_q ?b1_q ?b2_q ?b3_q ?b4_q ?b5_q; (case bx_q => assumption); (case b1_q => exact rfl); (case b2_q => k_dflt k_is); (case b3_q => exact rfl); (case b4_q => exact rfl); (case b5_q => exact rfl))); (case hkd => exact rfl); (case hnd => decide +kernel); (case ha => exact rfl); (case hb => exact rfl); (case hc => exact rfl))
  trivial
theorem wNpM1 : True := by
  (k_with "pyIter ref" => (with_reducible refine haltIt ?_))
  (k_with "exec For Name Subscript cons nil" => (k_here; (rename Fr _ _ _ _ => lF'q); (with_unfolding_all refine' For_invVF lF'q ?k1_q ?k2_q ?_; (case k1_q => exact rfl); (case k2_q => exact rfl); k_whole)))
  (k_with "np_all" => (assumption))
  (k_with "subscriptTail Name Constant ref str" => (k_here; (with_reducible show wpAny _ _ (subscriptTail _ _ (Value.ref _) (Value.str _ _)) _ _ _); k_dflt (refine kda_item (knd := PySem.strKind _ _) (by k_asm) (by k_mem) (by k_asm) (strKind_is _ _ _ _) (by rfl) ?_)))
  (k_with "setItem ref str" => (k_here; k_dflt (refine' kda_set (knd := PySem.strKind _ _) ?F_q ?N_q ?U_q ?d_q (strKind_is _ _ _ _) ?z_q ?_; (case F_q => k_asm); (case N_q => k_asm); (case U_q => k_updF); (case d_q => k_asm); (case z_q => rw [sizeLine_eq]; exact Nat.le_of_ble_eq_true (by with_unfolding_all rfl))); intro _ _ _ N'q hd'q; (try simp only [stored_streams, stored_stamp, stored_hits, stored_misses, stored_asked] at hd'q); (try dsimp only at N'q)))
  (k_with "eval ListComp" => (k_here; first | (lct_look; k_dflt (refine LCt.ListComp_T (F₀ := by k_asm) (by with_unfolding_all rfl) (by decide) (by rfl) (by decide) (by rfl) ?_)) | ((with_reducible show wpAny _ _ (eval (Expr.ListComp _ [Comprehension.mk _ _ [] _] _ _) _) _ _ _); k_dflt (refine LCg.ListComp_U (F₀ := by k_asm) (by with_unfolding_all rfl) (by decide) (by rfl) (by decide) (by rfl) ?_))))
  trivial
section
variable {w : World} {A : Around} {s : Shared} {h₀ : Heap} {Q E : Value → Shared → Prop} {x d : Addr} {σ : St}
theorem item_lv {prog : Program} {A : Around} {value slice : PySem.Expr} {g : Heap} {L l : Addr} {news : List (Addr × Obj)} {vs : List Value} {n : Nat} {k : Int} {u : Tok} {v : Value} (N : News g L s.heap news) (hm : (l, listOf vs.toArray n) ∈ news) (h0 : 0 ≤ k) (hhi : k < 2 ^ 63) (hx : vs[k.toNat]? = some v)
    (h : Q v s) (hs : subscripted slice false (.ref l) (.int k u) = operate [.ref l, .int k u] (getItem (.ref l) (.int k u)) := by with_unfolding_all rfl) :
    wpAny (model prog w) A (subscriptTail value slice (.ref l) (.int k u)) Q E s := by
  have hL : s.heap.IsList l vs.toArray := News.isList N hm
  exact tail_any hL.typeIs slot_list_getitem.lookup (wpAny_getItem_list hL h0 hhi (by simpa using hx) h) hs
theorem wNpM2 : True := by
  (k_with "subscriptTail" => (k_here; (with_reducible show wpAny _ _ (subscriptTail _ _ (Value.ref _) (Value.int _ _)) _ _ _); k_dflt (refine' item_lv ?N_q ?m_q ?a_q ?b_q ?x_q ?_ ?hs_q; (case N_q => k_asm); (case m_q => k_mem); (case a_q => decide); (case b_q => decide); (case x_q => rfl); (case hs_q => with_unfolding_all rfl); k_whole)))
  trivial
noncomputable def grabL (h : Heap) (ls : List LEnt) : List (Addr × Obj) := ls.map fun e => (e.1, (h.get? e.1).getD default)
theorem grabL_mem {h : Heap} {ls : List LEnt} (hE : LsAt h ls) : ∀ q ∈ grabL h ls, h.get? q.1 = some q.2 ∧ ∃ e ∈ ls, q.1 = e.1 := fun q hq => by
  obtain ⟨e, he, rfl⟩ := List.mem_map.mp hq
  obtain ⟨t, n, b⟩ := hE e he
  exact ⟨by dsimp only; rw [b]; rfl, e, he, rfl⟩
/-- the law's streams on a ledger -/
noncomputable def LIn (n : List (Addr × Obj)) (a : Addr) (σ : St) : Prop := ∃ t c, (a, listOf (lVs t σ).toArray c) ∈ n
theorem grabL_has {h : Heap} {ls : List LEnt} (hE : LsAt h ls) {e : LEnt} (he : e ∈ ls) : LIn (grabL h ls) e.1 e.2 := by
  obtain ⟨t, n, b⟩ := hE e he
  exact ⟨t, n, List.mem_map.mpr ⟨e, he, by rw [b]; rfl⟩⟩
theorem LIn.mk' {n : List (Addr × Obj)} {a : Addr} {c : Nat} {t0 t1 t2 t3 t4 t5 : Tok} {w l hi f st : Int} {r : Option Int}
    (hd : (a, listOf #[.int w t0, .int l t1, .int hi t2, optV r t3, .int f t4, .int st t5] c) ∈ n) : LIn n a ⟨w, l, hi, r, f, st⟩ :=
  ⟨fun i => match i with | 0 => t0 | 1 => t1 | 2 => t2 | 3 => t3 | 4 => t4 | _ => t5, c, hd⟩
theorem LIn.mkS {n : List (Addr × Obj)} {a : Addr} {c : Nat} {t0 t1 t2 t3 t4 t5 : Tok} {w l hi f st r : Int}
    (hd : (a, listOf #[.int w t0, .int l t1, .int hi t2, .int r t3, .int f t4, .int st t5] c) ∈ n) : LIn n a ⟨w, l, hi, some r, f, st⟩ := LIn.mk' (r := some r) hd
noncomputable def LsIn (n : List (Addr × Obj)) (ls : List LEnt) : Prop := ∀ e ∈ ls, LIn n e.1 e.2
theorem LsIn.front {n : List (Addr × Obj)} {d : Addr} {o : Obj} {es : List LEnt} (h : LsIn n es) (hd : ∀ e ∈ es, e.1 ≠ d) : LsIn ((d, o) :: n.filter fun p => decide (p.1 ≠ d)) es := fun e he => by
  obtain ⟨q, t, hm⟩ := h e he
  exact ⟨q, t, .tail _ (List.mem_filter.mpr ⟨hm, by simpa using hd e he⟩)⟩
theorem LsIn.swap {n : List (Addr × Obj)} {d : Addr} {o o' : Obj} {es : List LEnt} (h : LsIn ((d, o) :: n) es) (hd : ∀ e ∈ es, e.1 ≠ d) : LsIn ((d, o') :: n) es := fun e he => by
  obtain ⟨q, t, hm⟩ := h e he
  rcases List.mem_cons.mp hm with h | h
  · exact absurd (congrArg Prod.fst h) (hd e he)
  · exact ⟨q, t, .tail _ h⟩
noncomputable def cutLE (most : Int) (e : LEnt) : LEnt := (e.1, cutS most e.2)
theorem lsIn_put {n : List (Addr × Obj)} {most : Int} {d : Addr} {o : Obj} {σ : St} {dn r : List LEnt} (h : LsIn ((d, o) :: n) (dn.map (cutLE most) ++ r)) (hd : LIn ((d, o) :: n) d (cutS most σ)) : LsIn ((d, o) :: n) (dn.map (cutLE most) ++ ([(d, σ)].map (cutLE most) ++ r)) := fun e he => by
  rcases List.mem_append.mp he with he | he
  · exact h e (List.mem_append_left _ he)
  · rcases List.mem_append.mp he with he | he
    · simp only [List.map_cons, List.map_nil, List.mem_singleton] at he
      subst he
      exact hd
    · exact h e (List.mem_append_right _ he)
theorem law_cut_spec {D T : Addr} {S : Sc} {ls : List LEnt} {nt : Nat} {most : Int} {tm : Tok} (G : Gr w h₀) (hk : Up h₀ s.heap) (hA : A.handled = none) (hd : A.depth + 8 < recursionLimit)
    (W : LW w s.heap D T S ls nt) (hlen : ls.length ≤ 50) (hfD : h₀.get? D = none) (hfT : h₀.get? T = none) (hf : ∀ e ∈ ls, h₀.get? e.1 = none) (hg : ∀ e ∈ ls, e.2.way ≠ 0 → e.2.reached ≠ none)
    (ret : ∀ h' tk T' o k, KeepBut (D :: ls.map (·.1)) s.heap h' → s.heap.get? T' = none → h'.get? D = some o → DIs w o S T' → h'.get? T' = some (listOf (refsL ((ls.filter fun e => decide (e.2.high ≤ most)).map (cutLE most))).toArray k) →
      LsAt h' ((ls.filter fun e => decide (e.2.high ≤ most)).map (cutLE most)) → Q .none {s with heap := h', toks := tk}) :
    wpAny (model Pg w) A (call (.ref 213) [.ref D, .int most tm]) Q E s := by
  obtain ⟨ah, ad, af, ag, au⟩ := A
  obtain rfl : ah = none := hA
  dsimp only at hd
  obtain ⟨⟨oD, hD, hoD⟩, hT, hE, hnd, hne⟩ := W
  have hDT : @Ne Nat D T := ne_of_cls hD hT (by rw [hoD.cls]; simp)
  have hcD := hoD.cls
  obtain ⟨t, hoD⟩ := hoD
  obtain ⟨ds, hds⟩ : ∃ ds, ds = grabL s.heap ls := ⟨_, rfl⟩
  have hgm := grabL_mem hE
  rw [← hds] at hgm
  have hlD : ∀ e ∈ ls, e.1 ≠ D := fun e he h => by
    obtain ⟨t, n, a⟩ := hE e he
    exact ne_of_cls a hD (by rw [hcD]; simp) h
  have hdsD : ∀ p ∈ ds, p.1 ≠ D := fun p hp e' => let ⟨e, he, e2⟩ := (hgm p hp).2; hlD e he (e2.symm.trans e')
  have hgh : ∀ e ∈ ls, LIn ds e.1 e.2 := fun e he => hds ▸ grabL_has hE he
  refine' enterX (D := (D, oD) :: (T, listOf (refsL ls).toArray nt) :: ds) (binds := [(Str.ofString "state", .ref D), (Str.ofString "most", .int most tm)]) G hk (List.forall_mem_cons.mpr ⟨⟨hD, hfD⟩, List.forall_mem_cons.mpr ⟨⟨hT, hfT⟩, fun p hp => ⟨(hgm p hp).1, let ⟨e, he, e'⟩ := (hgm p hp).2; e' ▸ hf e he⟩⟩⟩) ?ho ?hcd ?hr ?hbind ?hkd ?hnd ?_ ?ha ?hb ?hc
  walk_at "np_enterX"
  intro g' L' h' tk0 mean mg mb cells F' N' Y' l1 X' T' G' kG'
  k_cells Y'
  rename_i o1 e1
  simp only [List.cons_append, List.nil_append] at N'
  have l1c := l1
  k_lt l1
  try dsimp only
  k_unmd
  k_fold
  k_steps
  rename Fr _ _ _ _ => kF; rename News _ _ _ _ => kN
  refine Halt.mk ?_
  refine LCt.CompSrcT.ledger rfl kF kN (.tail _ (.tail _ (.head _))) (by rw [sizeLine_eq]; simp only [refsL, List.size_toArray, List.length_map]; omega) (fun h1 => comp_restT (α := LEnt) (f := fun e => .ref e.1) (l₀ := ls)
    (fun r ys n => Hold (n = (L' + 1, o1) :: (D, oD) :: (T, listOf (refsL ls).toArray nt) :: ds ∧ ∃ dn, ls = dn ++ r ∧ ys = refsL (dn.filter fun e => decide (e.2.high ≤ most)))) ?turn ?fin (Hold.mk ⟨rfl, [], rfl, rfl⟩))
  case turn =>
    rintro ⟨y, ρ⟩ r ys n I oI C oC D2 m₂ h tk E' ⟨rfl, dn, hdn, rfl⟩ hC hx F' N' off ne
    obtain ⟨t', c', he'⟩ := hgh (y, ρ) (by rw [hdn]; simp)
    dsimp only at he'
    clear kF kN
    k_unmd
    try k_fold
    k_steps
    all_goals (rename Fr _ _ _ _ => kF; rename News _ _ _ _ => kN)
    all_goals exact Halt.mk (LCg.CompEnd.intro kF kN _ (fun p hp => hp) off (.inr ⟨_, by k_mem, rfl, _, rfl⟩) (Hold.mk ⟨rfl, dn ++ [(y, ρ)], by rw [hdn]; simp, by simp [refsL, List.filter_append, *]⟩))
  case fin =>
    clear kF kN
    rintro ys n ⟨rfl, dn, hdn, rfl⟩ D2 h tk F' N' off
    rw [List.append_nil] at hdn
    subst hdn
    obtain ⟨ls1, hls1⟩ : ∃ ls1, ls1 = ls.filter fun e => decide (e.2.high ≤ most) := ⟨_, rfl⟩
    rw [← hls1] at N' ret
    simp only [LCg.Off1, and_true] at off
    try dsimp only
    k_unmd
    try k_fold
    k_steps
    rename Fr _ _ _ _ => kF; rename News _ _ _ _ => kN
    have hsub : ∀ e ∈ ls1, e ∈ ls := fun e he => (List.mem_filter.mp (hls1 ▸ he)).1
    have hn21 : (ls1.map (·.1)).Nodup := by rw [hls1]; exact hnd.sublist ((List.filter_sublist).map _)
    rename Obj => oD2; have hoD2 := hd'q
    refine Halt.mk ?_
    refine loop_listJ (α := LEnt) (f := fun e => .ref e.1) (l := ls1) [Str.ofString "one"] (fun r n' => Hold (∃ nD, n' = (D2, LCg.lst (refsL ls1)) :: (L' + 1, o1) :: (D, oD2) :: nD ∧ (T, listOf (refsL ls).toArray nt) ∈ nD ∧ (∀ p ∈ nD, p.1 ∈ ((T, listOf (refsL ls).toArray nt) :: ds).map (·.1)) ∧ ∃ dn, ls1 = dn ++ r ∧ LsIn nD (dn.map (cutLE most) ++ r)))
      (L := L') rfl rfl kF kN (.head _) rfl rfl rfl (Hold.mk ⟨_, rfl, .head _, fun p hp => List.mem_map_of_mem hp, [], rfl, fun e he => ?start⟩) ?nil ?cons
    case start =>
      obtain ⟨q, t, hm⟩ := hgh e (hsub e he)
      exact ⟨q, t, .tail _ hm⟩
    case nil =>
      clear kF kN
      rintro m' n' h' tk' ⟨nD, rfl, hTm, hAd, dn, hdn, hEs⟩ F' N'
      rw [List.append_nil] at hdn hEs
      subst hdn
      try dsimp only
      k_unmd
      try k_fold
      k_steps
      have hkb := keepBut_news (M := D :: ls.map (·.1)) kG' F' N' (List.forall_mem_cons.mpr ⟨hD, List.forall_mem_cons.mpr ⟨hT, fun p hp => (hgm p hp).1⟩⟩) (List.forall_mem_cons.mpr ⟨.inl (.head _), List.forall_mem_cons.mpr ⟨.inr (.tail _ (.tail _ (.tail _ hTm))), fun p hp => .inl (let ⟨e, he, e'⟩ := (hgm p hp).2; e' ▸ .tail _ (List.mem_map_of_mem (f := fun e : LEnt => e.1) he))⟩⟩)
      have hlst := N'.get (.head _)
      have hlst : h'.get? D2 = some (listOf (refsL (ls1.map (cutLE most))).toArray (refsL ls1).length) := by rw [show refsL (ls1.map (cutLE most)) = refsL ls1 by simp [refsL, cutLE]]; exact hlst
      refine ret _ _ D2 oD2 (refsL ls1).length hkb (none_but kG' N' (.head _) fun h => ?_) (N'.get (.tail _ (.tail _ (.head _)))) ⟨_, hoD2⟩ hlst ?_
      · simp only [List.map_cons, List.mem_cons] at h
        rcases h with h | h | h
        · exact off.2.1 h.symm
        · exact off.2.2.1 h.symm
        · obtain ⟨p, hp, h⟩ := List.mem_map.mp h
          exact off1_all off.2.2.2 p hp h
      · intro e he
        obtain ⟨q, t, hm⟩ := hEs e he
        exact ⟨q, t, N'.get (.tail _ (.tail _ (.tail _ hm)))⟩
    case cons =>
      clear kF kN
      rintro ⟨x, σ⟩ r m' n' I it h' tk' hI ⟨nD, rfl, hTm, hAd, dn, hdn, hEs⟩ hit F' N'
      have hes : (x, σ) ∈ ls := hsub _ (by rw [hdn]; simp)
      obtain ⟨t', c', hmem⟩ := hEs (x, σ) (by simp)
      dsimp only at hmem
      have hdn2 : ∀ e ∈ dn.map (cutLE most) ++ r, e.1 ≠ x := by
        rw [hdn, List.map_append, List.map_cons, List.nodup_append] at hn21
        intro e he
        rcases List.mem_append.mp he with he | he
        · obtain ⟨e', he', rfl⟩ := List.mem_map.mp he
          exact hn21.2.2 _ (List.mem_map_of_mem he') _ (.head _)
        · intro h
          have := (List.nodup_cons.mp hn21.2.1).1
          rw [show (x, σ).1 = x from rfl, ← h] at this
          exact this (List.mem_map_of_mem (f := fun e : LEnt => e.1) he)
      have hEs2 := LsIn.front (d := x) (o := listOf (lVs t' σ).toArray c') (es := dn.map (cutLE most) ++ r) (fun e he => hEs e (by rcases List.mem_append.mp he with h | h <;> simp [h])) hdn2
      have N2 : News g' L' h' ((I, it) :: (D2, LCg.lst (refsL ls1)) :: (L' + 1, o1) :: (D, oD2) :: (x, listOf (lVs t' σ).toArray c') :: nD.filter fun p => decide (p.1 ≠ x)) :=
        List.forall_mem_cons.mpr ⟨N' _ (.head _), List.forall_mem_cons.mpr ⟨N' _ (.tail _ (.head _)), List.forall_mem_cons.mpr ⟨N' _ (.tail _ (.tail _ (.head _))), List.forall_mem_cons.mpr ⟨N' _ (.tail _ (.tail _ (.tail _ (.head _)))), news_front (fun p hp => N' p (.tail _ (.tail _ (.tail _ (.tail _ hp))))) hmem⟩⟩⟩⟩
      have hoff := off_front (d := x) (n := nD)
      have hxT : T ≠ x := fun e => hne (x, σ) hes e.symm
      have hTm2 : (T, listOf (refsL ls).toArray nt) ∈ nD.filter fun p => decide (p.1 ≠ x) := List.mem_filter.mpr ⟨hTm, by simpa using hxT⟩
      have hAd2 : ∀ p ∈ nD.filter (fun p => decide (p.1 ≠ x)), p.1 ∈ ((T, listOf (refsL ls).toArray nt) :: ds).map (·.1) := fun p hp => hAd p (List.mem_filter.mp hp).1
      have hIa : ∀ a ∈ ((T, listOf (refsL ls).toArray nt) :: ds).map (·.1), @LT.lt Nat _ a I := fun a ha => by
        obtain ⟨p, hp, rfl⟩ := List.mem_map.mp ha
        exact hI p (.tail _ (.tail _ (.tail _ hp)))
      obtain ⟨n3, hn3⟩ : ∃ n3, n3 = nD.filter fun p => decide (p.1 ≠ x) := ⟨_, rfl⟩
      rw [← hn3] at hEs2 N2 hoff hTm2 hAd2
      have hxm : x ∈ ds.map (·.1) := by
        obtain ⟨q, t, hm⟩ := hgh (x, σ) hes
        exact List.mem_map.mpr ⟨_, hm, rfl⟩
      have hId : @Ne Nat I x := Nat.ne_of_gt (hIa _ (List.mem_cons_of_mem _ hxm))
      have hDx : @Ne Nat D x := fun e => hlD (x, σ) hes e.symm
      have hDd : @Ne Nat D2 x := fun e => by
        obtain ⟨q, t, hm⟩ := hgh (x, σ) hes
        exact off1_all off.2.2.2 _ hm e.symm
      have hxL : @LT.lt Nat _ x L' := by
        obtain ⟨q, t, hm⟩ := hgh (x, σ) hes
        exact l1c _ (.tail _ (.tail _ hm))
      clear N' hn3 hmem hTm
      obtain ⟨wy, lo, hi, re, fa, sta⟩ := σ
      have hgx := hg (x, ⟨wy, lo, hi, re, fa, sta⟩) hes
      dsimp only at hgx
      have hI1 : @LT.lt Nat _ D2 I := hI _ (.head _)
      have hI2 : @LT.lt Nat _ (L' + 1) I := hI (L' + 1, o1) (.tail _ (.head _))
      have hI3 : @LT.lt Nat _ D I := hI (D, oD2) (.tail _ (.tail _ (.head _)))
      have hI4 : ∀ p ∈ n3, p.1 ≠ I := fun p hp => Nat.ne_of_lt (hIa _ (hAd2 p hp))
      cases re with
      | none =>
        have hw0 : wy = 0 := Classical.byContradiction fun h => hgx h rfl
        subst hw0
        try dsimp only [lVs, optV] at N2
        k_unmd
        k_fold
        k_steps
        rename Fr _ _ _ _ => kF; rename News _ _ _ _ => kN
        refine ⟨_, _, _, _, rfl, kF, kN, ?off, .head _, Hold.mk ⟨_, rfl, .tail _ hTm2, ?ad, dn ++ [(x, ⟨0, lo, hi, none, fa, sta⟩)], by rw [hdn]; simp, ?es⟩, fun y hy => by simp +zetaDelta only [hy, if_false, Bool.false_eq_true]; exact if_neg (off1 hy)⟩
        case ad => exact List.forall_mem_cons.mpr ⟨List.mem_cons_of_mem _ hxm, hAd2⟩
        case off => exact List.forall_mem_cons.mpr ⟨Nat.ne_of_lt hI1, List.forall_mem_cons.mpr ⟨Nat.ne_of_lt hI2, List.forall_mem_cons.mpr ⟨Nat.ne_of_lt hI3, List.forall_mem_cons.mpr ⟨hId.symm, hI4⟩⟩⟩⟩
        case es =>
          rw [List.map_append, List.append_assoc]
          refine lsIn_put hEs2 ?_
          rw [show cutS most ⟨0, lo, hi, none, fa, sta⟩ = ⟨0, lo, hi, none, fa, sta⟩ from if_neg (by simp)]
          exact LIn.mk' (r := none) (t3 := 0) (.head _)
      | some re =>
        try dsimp only [lVs, optV] at N2
        k_unmd
        k_fold
        k_steps
        all_goals (
          rename Fr _ _ _ _ => kF; rename News _ _ _ _ => kN
          refine ⟨_, _, _, _, rfl, kF, kN, ?off, .head _, Hold.mk ⟨_, rfl, .tail _ hTm2, ?ad, dn ++ [(x, ⟨wy, lo, hi, some re, fa, sta⟩)], by rw [hdn]; simp, ?es⟩, fun y hy => by simp +zetaDelta only [hy, if_false, Bool.false_eq_true]; exact if_neg (off1 hy)⟩
          case ad => exact List.forall_mem_cons.mpr ⟨List.mem_cons_of_mem _ hxm, hAd2⟩
          case off => exact List.forall_mem_cons.mpr ⟨Nat.ne_of_lt hI1, List.forall_mem_cons.mpr ⟨Nat.ne_of_lt hI2, List.forall_mem_cons.mpr ⟨Nat.ne_of_lt hI3, List.forall_mem_cons.mpr ⟨hId.symm, hI4⟩⟩⟩⟩
          case es =>
            rw [List.map_append, List.append_assoc]
            refine lsIn_put (LsIn.swap hEs2 hdn2) ?_
            first
              | (rw [show cutS most ⟨wy, lo, hi, some re, fa, sta⟩ = ⟨wy, lo, hi, some re, fa, sta⟩ from if_neg (by assumption)]; exact LIn.mkS (.head _))
              | (rw [show cutS most ⟨wy, lo, hi, some re, fa, sta⟩ = ⟨wy, lo, hi, some (if most < re then most else re), fa, sta⟩ by
                  rw [cutS, if_pos (by assumption)]; simp only [Option.map_some, St.mk.injEq, Option.some.injEq, true_and, and_true]; split <;> omega]; exact LIn.mkS (.head _)))
end
theorem wNpM3 : True := by
  k_with_none
  (k_with "np_omega" => (first
      | (with_reducible assumption)
      | omega -splitDisjunctions
      | ((with_reducible show @Ne Nat _ _); with_reducible refine Ne.symm ?_; with_reducible assumption)
      | (refine Nat.le_antisymm ?_ ?_ <;> omega -splitDisjunctions)
      | (refine Int.le_antisymm ?_ ?_ <;> omega -splitDisjunctions)
      | omega +splitDisjunctions))
  (k_with "np_mm" => (first
      | (simp (disch := (first | assumption | exact Int.le_of_lt (by assumption) | exact Int.not_lt.mp (by assumption) | omega)) only [Int.max_eq_right, Int.max_eq_left, Int.min_eq_right, Int.min_eq_left]; done)
      | omega))
  (k_with "np_lt" => (k_dflt (repeat (intro _)); k_dflt (refine Got.mk ?_)))
  (k_with "np_ne" => (first
      | (with_reducible refine Nat.ne_of_lt ?_; with_reducible assumption)
      | (with_reducible refine Nat.ne_of_gt ?_; with_reducible assumption)
      | (with_reducible assumption)
      | (with_reducible refine Ne.symm ?_; with_reducible assumption)
      | (refine neN ?_; (try dsimp only); omega)))
  (k_with "np_mem" => (first
      | ((repeat' (with_reducible first | exact List.Mem.head _ | refine List.Mem.tail _ ?_)); done)
      | (with_reducible assumption)
      | assumption))
  (k_with "ite" => (k_closed; k_dflt (first | refine ite_pos (by decide) ?_ | refine ite_neg (by decide) ?_)))
  (k_with "callWith ref" => (k_here; k_dflt (first | (refine' callWith_K ?k1_q ?k2_q ?_; (case k1_q => k_asm); (case k2_q => k_is); k_whole) | (refine' callWith_K0 ?k1_q ?k2_q ?_; (case k1_q => exact Frag.In.keeps (by k_asm) (Fr.keep (by k_asm))); (case k2_q => k_is); k_whole))))
  (k_with "CompEnd" => (with_reducible refine haltIt ?_))
  (k_with "CompSrc" => (with_reducible refine haltIt ?_))
  (k_with "CompSrcT" => (with_reducible refine haltIt ?_))
  (k_with "np_inst" => (first
      | (refine' InstAt.of_base ?F_q ?h1_q ?h2_q; (case F_q => k_asm); (case h1_q => k_asm); (case h2_q => k_asm))
      | (refine' InstAt.of_mixed ?F_q ?h1_q ?N_q ?h2_q; (case F_q => k_asm); (case h1_q => k_asm); (case N_q => k_asm); (case h2_q => k_mem))))
  (k_with "np_handed" => (exact handed_opt _ _))
  (k_with "np_enter" => (case ho => k_dflt k_is); (case hcd => k_dflt k_is); (try (case hr => (first | omega | (dsimp only; omega)))); (case hbind => first | exact BindsTo.of_eq rfl | (refine' binds_K ?bx_q ?b1_q ?b2_q ?b3_q ?b4_q ?b5_q; (case bx_q => assumption); (case b1_q => exact rfl); (case b2_q => k_dflt k_is); (case b3_q => exact rfl); (case b4_q => exact rfl); (case b5_q => exact rfl))); (case hloc => exact locs rfl); (case ha => exact rfl); (case hb => exact rfl); (case hc => exact rfl); (case hd => decide))
  (k_with "np_enterX" => (case ho => k_dflt k_is); (case hcd => k_dflt k_is); (try (case hr => (first | omega | (dsimp only; omega)))); (case hbind => first | exact BindsTo.of_eq rfl | (refine' binds_K ?bx_q ?b1_q ?b2_q ?b3_q ?b4_q ?b5_q; (case bx_q => assumption); (case b1_q => exact rfl); (case b2_q => k_dflt k_is); (case b3_q => exact rfl); (case b4_q => exact rfl); (case b5_q => exact rfl))); (case hkd => exact rfl); (case hnd => decide +kernel); (case ha => exact rfl); (case hb => exact rfl); (case hc => exact rfl))
  (k_with "exec For Name Subscript cons nil" => (k_here; (rename Fr _ _ _ _ => lF'q); (with_unfolding_all refine' For_invVF lF'q ?k1_q ?k2_q ?_; (case k1_q => exact rfl); (case k2_q => exact rfl); k_whole)))
  (k_with "np_all" => (assumption))
  (k_with "subscriptTail Name Constant ref str" => (k_here; (with_reducible show wpAny _ _ (subscriptTail _ _ (Value.ref _) (Value.str _ _)) _ _ _); k_dflt (refine kda_item (knd := PySem.strKind _ _) (by k_asm) (by k_mem) (by k_asm) (strKind_is _ _ _ _) (by rfl) ?_)))
  (k_with "setItem ref str" => (k_here; k_dflt (refine' kda_set (knd := PySem.strKind _ _) ?F_q ?N_q ?U_q ?d_q (strKind_is _ _ _ _) ?z_q ?_; (case F_q => k_asm); (case N_q => k_asm); (case U_q => k_updF); (case d_q => k_asm); (case z_q => rw [sizeLine_eq]; exact Nat.le_of_ble_eq_true (by with_unfolding_all rfl))); intro _ _ _ N'q hd'q; (try simp only [stored_streams, stored_stamp, stored_hits, stored_misses, stored_asked] at hd'q); (try dsimp only at N'q)))
  (k_with "eval ListComp" => (k_here; first | (lct_look; k_dflt (refine LCt.ListComp_T (F₀ := by k_asm) (by with_unfolding_all rfl) (by decide) (by rfl) (by decide) (by rfl) ?_)) | ((with_reducible show wpAny _ _ (eval (Expr.ListComp _ [Comprehension.mk _ _ [] _] _ _) _) _ _ _); k_dflt (refine LCg.ListComp_U (F₀ := by k_asm) (by with_unfolding_all rfl) (by decide) (by rfl) (by decide) (by rfl) ?_))))
  trivial
end

section
theorem wNpQ0 : True := by
  k_with_none
  (k_with "np_omega" => (first
      | (with_reducible assumption)
      | omega -splitDisjunctions
      | ((with_reducible show @Ne Nat _ _); with_reducible refine Ne.symm ?_; with_reducible assumption)
      | (refine Nat.le_antisymm ?_ ?_ <;> omega -splitDisjunctions)
      | (refine Int.le_antisymm ?_ ?_ <;> omega -splitDisjunctions)
      | omega +splitDisjunctions))
  (k_with "np_mm" => (first
      | (simp (disch := (first | assumption | exact Int.le_of_lt (by assumption) | exact Int.not_lt.mp (by assumption) | omega)) only [Int.max_eq_right, Int.max_eq_left, Int.min_eq_right, Int.min_eq_left]; done)
      | omega))
  (k_with "np_lt" => (k_dflt (repeat (intro _)); k_dflt (refine Got.mk ?_)))
  (k_with "np_ne" => (first
      | (with_reducible refine Nat.ne_of_lt ?_; with_reducible assumption)
      | (with_reducible refine Nat.ne_of_gt ?_; with_reducible assumption)
      | (with_reducible assumption)
      | (with_reducible refine Ne.symm ?_; with_reducible assumption)
      | (refine neN ?_; (try dsimp only); omega)))
  (k_with "np_mem" => (first
      | ((repeat' (with_reducible first | exact List.Mem.head _ | refine List.Mem.tail _ ?_)); done)
      | (with_reducible assumption)
      | assumption))
  (k_with "ite" => (k_closed; k_dflt (first | refine ite_pos (by decide) ?_ | refine ite_neg (by decide) ?_)))
  (k_with "callWith ref" => (k_here; k_dflt (first | (refine' callWith_K ?k1_q ?k2_q ?_; (case k1_q => k_asm); (case k2_q => k_is); k_whole) | (refine' callWith_K0 ?k1_q ?k2_q ?_; (case k1_q => exact Frag.In.keeps (by k_asm) (Fr.keep (by k_asm))); (case k2_q => k_is); k_whole))))
  (k_with "CompEnd" => (with_reducible refine haltIt ?_))
  (k_with "CompSrc" => (with_reducible refine haltIt ?_))
  (k_with "CompSrcT" => (with_reducible refine haltIt ?_))
  (k_with "np_inst" => (first
      | (refine' InstAt.of_base ?F_q ?h1_q ?h2_q; (case F_q => k_asm); (case h1_q => k_asm); (case h2_q => k_asm))
      | (refine' InstAt.of_mixed ?F_q ?h1_q ?N_q ?h2_q; (case F_q => k_asm); (case h1_q => k_asm); (case N_q => k_asm); (case h2_q => k_mem))))
  (k_with "execs cons" => (k_here; (try (with_reducible refine gentok ?_; intro _)); (with_reducible refine wpAny_execs_cons ?_); (try dsimp only); (try k_fold)))
  (k_with "execs nil" => (k_here; with_reducible refine gentok ?_; intro _))
  (k_with "np_handed" => (exact handed_opt _ _))
  (k_with "np_enter" => (case ho => k_dflt k_is); (case hcd => k_dflt k_is); (try (case hr => (first | omega | (dsimp only; omega)))); (case hbind => first | exact BindsTo.of_eq rfl | (refine' binds_K ?bx_q ?b1_q ?b2_q ?b3_q ?b4_q ?b5_q; (case bx_q => assumption); (case b1_q => exact rfl); (case b2_q => k_dflt k_is); (case b3_q => exact rfl); (case b4_q => exact rfl); (case b5_q => exact rfl))); (case hloc => exact locs rfl); (case ha => exact rfl); (case hb => exact rfl); (case hc => exact rfl); (case hd => decide))
  (k_with "np_enterX" => (case ho => k_dflt k_is); (case hcd => k_dflt k_is); (try (case hr => (first | omega | (dsimp only; omega)))); (case hbind => first | exact BindsTo.of_eq rfl | (refine' binds_K ?bx_q ?b1_q ?b2_q ?b3_q ?b4_q ?b5_q; (case bx_q => assumption); (case b1_q => exact rfl); (case b2_q => k_dflt k_is); (case b3_q => exact rfl); (case b4_q => exact rfl); (case b5_q => exact rfl))); (case hkd => exact rfl); (case hnd => decide +kernel); (case ha => exact rfl); (case hb => exact rfl); (case hc => exact rfl))
  trivial
section
open LCg LCt
variable {prog : Program} {w : World} {A : Around} {E : Value → Shared → Prop} {s : Shared} {env : Env} {g : Heap} {L : Addr} {m : Str → Option Value} {elt ct : Expr} {x : Str} {scope : Scope} {cl : List (Str × Addr)} {S : List (Addr × Obj) → Prop} {Fin : List Value → List (Addr × Obj) → Prop}
/-- a comprehension with one test that keeps the ledger: the items for which p holds, each as v -/
theorem comp_filterT {α : Type} {f v : α → Value} {l₀ : List α} (p : α → Bool) {news : List (Addr × Obj)}
    (turn : ∀ a ys I oI C oC D m₂ h tk (E' : Value → Shared → Prop), a ∈ l₀ → NsObj oC m₂ → m₂ x = some (f a) → Fr g L h m → News g L h ((I, oI) :: (C, oC) :: (D, lst ys) :: news) → Off3 I C D news → ((@Ne Nat I C) ∧ (@Ne Nat I D) ∧ (@Ne Nat C D)) →
      wpAny (model prog w) A (isTrue ct (compEnvC scope cl C env) (eval ct (compEnvC scope cl C env))) (fun ok s' => if ok = true then
        wpAny (model prog w) A (eval elt (compEnvC scope cl C env)) (CompEnd g L m { s with heap := h, toks := tk } I oI C oC D (lst ys) S (fun y n' => Hold (n' = news ∧ p a = true ∧ y = v a))) E' s'
        else CompEnd g L m { s with heap := h, toks := tk } I oI C oC D (lst ys) S (fun _ n' => Hold (n' = news ∧ p a = false)) Value.none s') E' { s with heap := h, toks := tk })
    (fin : Fin ((l₀.filter p).map v) news) :
    CompRestT prog w A g L m env ct elt x scope cl s S (fun i v => (l₀.map f).toArray[i]? = some v) Fin (l₀.map f).toArray.size 0 [] news := by
  refine comp_restT (f := f) (l₀ := l₀) (fun r ys n => n = news ∧ ∃ dn, l₀ = dn ++ r ∧ ys = (dn.filter p).map v) (fun a r ys n I oI C oC D m₂ h tk E' ⟨hn, dn, hdn, hys⟩ hC hx F N off ne => ?_) (fun ys n ⟨hn, dn, hdn, hys⟩ => ?_) ⟨rfl, [], rfl, rfl⟩
  · subst hn
    refine wpAny_mono (turn a ys I oI C oC D m₂ h tk E' (by rw [hdn]; simp) hC hx F N off ne) (fun ok s' c => ?_) fun _ _ e => e
    cases ok with
    | true =>
      simp only [if_true] at c ⊢
      refine wpAny_mono c (fun y s₂ c => ?_) fun _ _ e => e
      obtain ⟨h', tk', n', e, F', N', o', S', q1, q2, q3⟩ := c
      exact ⟨h', tk', n', e, F', N', o', S', q1, dn ++ [a], by rw [hdn]; simp, by rw [hys, q3]; simp [List.filter_append, q2]⟩
    | false =>
      simp only [Bool.false_eq_true, if_false] at c ⊢
      obtain ⟨h', tk', n', e, F', N', o', S', q1, q2⟩ := c
      exact ⟨h', tk', n', e, F', N', o', S', q1, dn ++ [a], by rw [hdn]; simp, by rw [hys]; simp [List.filter_append, q2]⟩
  · subst hn
    rw [List.append_nil] at hdn
    subst hdn
    rw [hys]
    exact fin
/-- a comprehension without a test that keeps the ledger; each item's value is told by a relation -/
theorem comp_mapR {α : Type} {f : α → Value} {l₀ : List α} (R : α → Value → Prop) {news : List (Addr × Obj)}
    (turn : ∀ a ys I oI C oC D m₂ h tk (E' : Value → Shared → Prop), a ∈ l₀ → NsObj oC m₂ → m₂ x = some (f a) → Fr g L h m → News g L h ((I, oI) :: (C, oC) :: (D, lst ys) :: news) → Off3 I C D news → ((@Ne Nat I C) ∧ (@Ne Nat I D) ∧ (@Ne Nat C D)) →
      wpAny (model prog w) A (eval elt (compEnvC scope cl C env)) (CompEnd g L m { s with heap := h, toks := tk } I oI C oC D (lst ys) S (fun y n' => Hold (n' = news ∧ R a y))) E' { s with heap := h, toks := tk })
    (fin : ∀ ys, All2 R l₀ ys → Fin ys news) :
    CompRest prog w A g L m env elt x scope cl s S (fun i v => (l₀.map f).toArray[i]? = some v) Fin (l₀.map f).toArray.size 0 [] news := by
  refine comp_rest (f := f) (l₀ := l₀) (fun r ys n => n = news ∧ ∃ dn, l₀ = dn ++ r ∧ All2 R dn ys) (fun a r ys n I oI C oC D m₂ h tk E' ⟨hn, dn, hdn, hys⟩ hC hx F N off ne => ?_) (fun ys n ⟨hn, dn, hdn, hys⟩ => ?_) ⟨rfl, [], rfl, .nil⟩
  · subst hn
    refine wpAny_mono (turn a ys I oI C oC D m₂ h tk E' (by rw [hdn]; simp) hC hx F N off ne) (fun y s₂ c => ?_) fun _ _ e => e
    obtain ⟨h', tk', n', e, F', N', o', S', q1, q2⟩ := c
    exact ⟨h', tk', n', e, F', N', o', S', q1, dn ++ [a], by rw [hdn]; simp, hys.snoc q2⟩
  · subst hn
    rw [List.append_nil] at hdn
    subst hdn
    exact fin ys hys
end
end

section
theorem wNpT0 : True := by
  k_with_none
  (k_with "np_omega" => (first
      | (with_reducible assumption)
      | omega -splitDisjunctions
      | ((with_reducible show @Ne Nat _ _); with_reducible refine Ne.symm ?_; with_reducible assumption)
      | (refine Nat.le_antisymm ?_ ?_ <;> omega -splitDisjunctions)
      | (refine Int.le_antisymm ?_ ?_ <;> omega -splitDisjunctions)
      | omega +splitDisjunctions))
  (k_with "np_mm" => (first
      | (simp (disch := (first | assumption | exact Int.le_of_lt (by assumption) | exact Int.not_lt.mp (by assumption) | omega)) only [Int.max_eq_right, Int.max_eq_left, Int.min_eq_right, Int.min_eq_left]; done)
      | omega))
  (k_with "np_lt" => (k_dflt (repeat (intro _)); k_dflt (refine Got.mk ?_)))
  (k_with "np_ne" => (first
      | (with_reducible refine Nat.ne_of_lt ?_; with_reducible assumption)
      | (with_reducible refine Nat.ne_of_gt ?_; with_reducible assumption)
      | (with_reducible assumption)
      | (with_reducible refine Ne.symm ?_; with_reducible assumption)
      | (refine neN ?_; (try dsimp only); omega)))
  (k_with "np_mem" => (first
      | ((repeat' (with_reducible first | exact List.Mem.head _ | refine List.Mem.tail _ ?_)); done)
      | (with_reducible assumption)
      | assumption))
  (k_with "ite" => (k_closed; k_dflt (first | refine ite_pos (by decide) ?_ | refine ite_neg (by decide) ?_)))
  (k_with "callWith ref" => (k_here; k_dflt (first | (refine' callWith_K ?k1_q ?k2_q ?_; (case k1_q => k_asm); (case k2_q => k_is); k_whole) | (refine' callWith_K0 ?k1_q ?k2_q ?_; (case k1_q => exact Frag.In.keeps (by k_asm) (Fr.keep (by k_asm))); (case k2_q => k_is); k_whole))))
  (k_with "CompEnd" => (with_reducible refine haltIt ?_))
  (k_with "CompSrc" => (with_reducible refine haltIt ?_))
  (k_with "CompSrcT" => (with_reducible refine haltIt ?_))
  (k_with "np_inst" => (first
      | (refine' InstAt.of_base ?F_q ?h1_q ?h2_q; (case F_q => k_asm); (case h1_q => k_asm); (case h2_q => k_asm))
      | (refine' InstAt.of_mixed ?F_q ?h1_q ?N_q ?h2_q; (case F_q => k_asm); (case h1_q => k_asm); (case N_q => k_asm); (case h2_q => k_mem))))
  (k_with "execs cons" => (k_here; (try (with_reducible refine gentok ?_; intro _)); (with_reducible refine wpAny_execs_cons ?_); (try dsimp only); (try k_fold)))
  (k_with "execs nil" => (k_here; with_reducible refine gentok ?_; intro _))
  (k_with "np_handed" => (exact handed_opt _ _))
  (k_with "np_enter" => (case ho => k_dflt k_is); (case hcd => k_dflt k_is); (try (case hr => (first | omega | (dsimp only; omega)))); (case hbind => first | exact BindsTo.of_eq rfl | (refine' binds_K ?bx_q ?b1_q ?b2_q ?b3_q ?b4_q ?b5_q; (case bx_q => assumption); (case b1_q => exact rfl); (case b2_q => k_dflt k_is); (case b3_q => exact rfl); (case b4_q => exact rfl); (case b5_q => exact rfl))); (case hloc => exact locs rfl); (case ha => exact rfl); (case hb => exact rfl); (case hc => exact rfl); (case hd => decide))
  (k_with "np_enterX" => (case ho => k_dflt k_is); (case hcd => k_dflt k_is); (try (case hr => (first | omega | (dsimp only; omega)))); (case hbind => first | exact BindsTo.of_eq rfl | (refine' binds_K ?bx_q ?b1_q ?b2_q ?b3_q ?b4_q ?b5_q; (case bx_q => assumption); (case b1_q => exact rfl); (case b2_q => k_dflt k_is); (case b3_q => exact rfl); (case b4_q => exact rfl); (case b5_q => exact rfl))); (case hkd => exact rfl); (case hnd => decide +kernel); (case ha => exact rfl); (case hb => exact rfl); (case hc => exact rfl))
  trivial
section
open LCg LCt
variable {prog : Program} {w : World} {A : Around} {E : Value → Shared → Prop} {s : Shared} {env : Env} {g : Heap} {L : Addr} {m : Str → Option Value} {elt ct : Expr} {x : Str} {scope : Scope} {cl : List (Str × Addr)} {S : List (Addr × Obj) → Prop} {Fin : List Value → List (Addr × Obj) → Prop}
theorem intsAre_snoc {vs : List Value} {is : List Int} (h : IntsAre vs is) (a : Int) (t : Tok) : IntsAre (vs ++ [.int a t]) (is ++ [a]) := by
  induction h with
  | nil => exact .cons _ _ .nil
  | cons i u _ ih => exact .cons _ _ ih
/-- a comprehension over a range: ints by a function of the turn's number -/
theorem comp_rangeI {a : Int} {n : Nat} (fI : Nat → Int) {news : List (Addr × Obj)}
    (turn : ∀ (i : Nat) t ys I oI C oC D m₂ h tk (E' : Value → Shared → Prop), i < n → NsObj oC m₂ → m₂ x = some (.int (a + (i : Int)) t) → Fr g L h m → News g L h ((I, oI) :: (C, oC) :: (D, lst ys) :: news) → Off3 I C D news → ((@Ne Nat I C) ∧ (@Ne Nat I D) ∧ (@Ne Nat C D)) →
      wpAny (model prog w) A (eval elt (compEnvC scope cl C env)) (CompEnd g L m { s with heap := h, toks := tk } I oI C oC D (lst ys) S (fun y n' => Hold (n' = news ∧ ∃ u, y = Value.int (fI i) u))) E' { s with heap := h, toks := tk })
    (fin : ∀ ys, IntsAre ys ((List.range n).map fI) → Fin ys news) :
    CompRest prog w A g L m env elt x scope cl s S (fun i v => ∃ t, v = Value.int (a + (i : Int)) t) Fin n 0 [] news := by
  have all : ∀ (k i : Nat) (ys : List Value), i + k = n → IntsAre ys ((List.range i).map fI) → CompRest prog w A g L m env elt x scope cl s S (fun i v => ∃ t, v = Value.int (a + (i : Int)) t) Fin k i ys news := by
    intro k
    induction k with
    | zero => exact fun i ys hi hy => CompRest.zero (fin ys (by rw [← hi]; simpa using hy))
    | succ k ih =>
      intro i ys hi hy
      refine CompRest.succ fun v I oI C oC D m₂ h tk E' hv hC hx F N off ne => ?_
      obtain ⟨t, rfl⟩ := hv
      refine wpAny_mono (turn i t ys I oI C oC D m₂ h tk E' (by omega) hC hx F N off ne) (fun y s₂ c => ?_) fun _ _ e => e
      obtain ⟨h', tk', n', e, F', N', o', S', rfl, u, rfl⟩ := c
      exact ⟨h', tk', _, e, F', N', o', S', ih (i + 1) _ (by omega) (by rw [List.range_succ, List.map_append]; exact intsAre_snoc hy _ _)⟩
  exact all n 0 [] (by omega) .nil
/-- a comprehension with one test over a list of ints -/
theorem comp_filterI {vs : List Value} {is : List Int} (hi : IntsAre vs is) (p : Int → Bool) {news : List (Addr × Obj)}
    (turn : ∀ a t ys I oI C oC D m₂ h tk (E' : Value → Shared → Prop), a ∈ is → NsObj oC m₂ → m₂ x = some (.int a t) → Fr g L h m → News g L h ((I, oI) :: (C, oC) :: (D, lst ys) :: news) → Off3 I C D news → ((@Ne Nat I C) ∧ (@Ne Nat I D) ∧ (@Ne Nat C D)) →
      wpAny (model prog w) A (isTrue ct (compEnvC scope cl C env) (eval ct (compEnvC scope cl C env))) (fun ok s' => if ok = true then
        wpAny (model prog w) A (eval elt (compEnvC scope cl C env)) (CompEnd g L m { s with heap := h, toks := tk } I oI C oC D (lst ys) S (fun y n' => Hold (n' = news ∧ p a = true ∧ ∃ u, y = Value.int a u))) E' s'
        else CompEnd g L m { s with heap := h, toks := tk } I oI C oC D (lst ys) S (fun _ n' => Hold (n' = news ∧ p a = false)) Value.none s') E' { s with heap := h, toks := tk })
    (fin : ∀ ys, IntsAre ys (is.filter p) → Fin ys news) :
    CompRestT prog w A g L m env ct elt x scope cl s S (fun i v => vs.toArray[i]? = some v) Fin vs.toArray.size 0 [] news := by
  have all : ∀ (r : List Value) (rs : List Int), IntsAre r rs → ∀ (i : Nat) (ys : List Value) (ds : List Int), vs.drop i = r → ds ++ rs = is → IntsAre ys (ds.filter p) → CompRestT prog w A g L m env ct elt x scope cl s S (fun i v => vs.toArray[i]? = some v) Fin r.length i ys news := by
    intro r rs hr
    induction hr with
    | nil => exact fun i ys ds _ hd hy => CompRestT.zero (fin ys (by rw [← hd, List.append_nil]; exact hy))
    | cons a t hr ih =>
      rename_i r rs
      intro i ys ds hv hd hy
      refine CompRestT.succ fun v I oI C oC D m₂ h tk E' hv' hC hx F N off ne => ?_
      have ha : vs[i]? = some (.int a t) := by
        have := congrArg List.head? hv
        rwa [List.head?_drop, List.head?_cons] at this
      obtain rfl : v = .int a t := by simpa [ha] using hv'.symm
      have hr' : vs.drop (i + 1) = r := by rw [← List.drop_drop, hv, List.drop_succ_cons, List.drop_zero]
      have hd' : (ds ++ [a]) ++ rs = is := by rw [← hd]; simp
      refine wpAny_mono (turn a t ys I oI C oC D m₂ h tk E' (by rw [← hd]; simp) hC hx F N off ne) (fun ok s' c => ?_) fun _ _ e => e
      cases ok with
      | true =>
        simp only [if_true] at c ⊢
        refine wpAny_mono c (fun y s₂ c => ?_) fun _ _ e => e
        obtain ⟨h', tk', n', e, F', N', o', S', rfl, hp, u, rfl⟩ := c
        exact ⟨h', tk', _, e, F', N', o', S', ih (i + 1) _ (ds ++ [a]) hr' hd' (by rw [List.filter_append, List.filter_cons_of_pos hp]; exact intsAre_snoc hy _ _)⟩
      | false =>
        simp only [Bool.false_eq_true, if_false] at c ⊢
        obtain ⟨h', tk', n', e, F', N', o', S', rfl, hp⟩ := c
        exact ⟨h', tk', _, e, F', N', o', S', ih (i + 1) _ (ds ++ [a]) hr' hd' (by rw [List.filter_append, List.filter_cons_of_neg (by simp [hp]), List.filter_nil, List.append_nil]; exact hy)⟩
  have := all vs is hi 0 [] [] rfl rfl .nil
  simpa using this
end
/-- a cut where several ways give one int -/
theorem cut_int {prog : Program} {w : World} {A : Around} {t : Sem Value} {Q : Value → Shared → Prop} {E : Value → Shared → Prop} {s : Shared} {g : Heap} {L : Addr} {m : Str → Option Value} {news : List (Addr × Obj)} (v : Int) (F : Fr g L s.heap m) (N : News g L s.heap news)
    (h1 : ∀ Q' : Value → Shared → Prop, (∀ k u h tk, k = v → Fr g L h m → News g L h news → Q' (.int k u) { s with heap := h, toks := tk }) → wpAny (model prog w) A t Q' E s)
    (h2 : ∀ u h tk, Fr g L h m → News g L h news → Q (.int v u) { s with heap := h, toks := tk }) : wpAny (model prog w) A t Q E s :=
  h1 Q fun k u h tk e F' N' => e ▸ h2 u h tk F' N'
end

section
theorem wNpY0 : True := by
  k_with_none
  (k_with "np_omega" => (first
      | (with_reducible assumption)
      | omega -splitDisjunctions
      | ((with_reducible show @Ne Nat _ _); with_reducible refine Ne.symm ?_; with_reducible assumption)
      | (refine Nat.le_antisymm ?_ ?_ <;> omega -splitDisjunctions)
      | (refine Int.le_antisymm ?_ ?_ <;> omega -splitDisjunctions)
      | omega +splitDisjunctions))
  (k_with "np_mm" => (first
      | (simp (disch := (first | assumption | exact Int.le_of_lt (by assumption) | exact Int.not_lt.mp (by assumption) | omega)) only [Int.max_eq_right, Int.max_eq_left, Int.min_eq_right, Int.min_eq_left]; done)
      | omega))
  (k_with "np_lt" => (k_dflt (repeat (intro _)); k_dflt (refine Got.mk ?_)))
  (k_with "np_ne" => (first
      | (with_reducible refine Nat.ne_of_lt ?_; with_reducible assumption)
      | (with_reducible refine Nat.ne_of_gt ?_; with_reducible assumption)
      | (with_reducible assumption)
      | (with_reducible refine Ne.symm ?_; with_reducible assumption)
      | (refine neN ?_; (try dsimp only); omega)))
  (k_with "np_mem" => (first
      | ((repeat' (with_reducible first | exact List.Mem.head _ | refine List.Mem.tail _ ?_)); done)
      | (with_reducible assumption)
      | assumption))
  (k_with "ite" => (k_closed; k_dflt (first | refine ite_pos (by decide) ?_ | refine ite_neg (by decide) ?_)))
  (k_with "callWith ref" => (k_here; k_dflt (first | (refine' callWith_K ?k1_q ?k2_q ?_; (case k1_q => k_asm); (case k2_q => k_is); k_whole) | (refine' callWith_K0 ?k1_q ?k2_q ?_; (case k1_q => exact Frag.In.keeps (by k_asm) (Fr.keep (by k_asm))); (case k2_q => k_is); k_whole))))
  (k_with "CompEnd" => (with_reducible refine haltIt ?_))
  (k_with "CompSrc" => (with_reducible refine haltIt ?_))
  (k_with "CompSrcT" => (with_reducible refine haltIt ?_))
  (k_with "np_inst" => (first
      | (refine' InstAt.of_base ?F_q ?h1_q ?h2_q; (case F_q => k_asm); (case h1_q => k_asm); (case h2_q => k_asm))
      | (refine' InstAt.of_mixed ?F_q ?h1_q ?N_q ?h2_q; (case F_q => k_asm); (case h1_q => k_asm); (case N_q => k_asm); (case h2_q => k_mem))))
  (k_with "execs cons" => (k_here; (try (with_reducible refine gentok ?_; intro _)); (with_reducible refine wpAny_execs_cons ?_); (try dsimp only); (try k_fold)))
  (k_with "execs nil" => (k_here; with_reducible refine gentok ?_; intro _))
  (k_with "np_handed" => (exact handed_opt _ _))
  (k_with "np_enter" => (case ho => k_dflt k_is); (case hcd => k_dflt k_is); (try (case hr => (first | omega | (dsimp only; omega)))); (case hbind => first | exact BindsTo.of_eq rfl | (refine' binds_K ?bx_q ?b1_q ?b2_q ?b3_q ?b4_q ?b5_q; (case bx_q => assumption); (case b1_q => exact rfl); (case b2_q => k_dflt k_is); (case b3_q => exact rfl); (case b4_q => exact rfl); (case b5_q => exact rfl))); (case hloc => exact locs rfl); (case ha => exact rfl); (case hb => exact rfl); (case hc => exact rfl); (case hd => decide))
  (k_with "np_enterX" => (case ho => k_dflt k_is); (case hcd => k_dflt k_is); (try (case hr => (first | omega | (dsimp only; omega)))); (case hbind => first | exact BindsTo.of_eq rfl | (refine' binds_K ?bx_q ?b1_q ?b2_q ?b3_q ?b4_q ?b5_q; (case bx_q => assumption); (case b1_q => exact rfl); (case b2_q => k_dflt k_is); (case b3_q => exact rfl); (case b4_q => exact rfl); (case b5_q => exact rfl))); (case hkd => exact rfl); (case hnd => decide +kernel); (case ha => exact rfl); (case hb => exact rfl); (case hc => exact rfl))
  trivial
noncomputable def edgeOf (w b m : Int) : Int := if w = 1 then b + m else b
noncomputable def okMost (most : Option Int) (k : Int) : Bool := match most with | none => true | some q => decide (k < q)
noncomputable def reachOf (σ : St) (w e : Int) : Int := if σ.way = 0 then e else if w = 1 then max e (rOf σ) else min e (rOf σ)
noncomputable def farOf (S : Sc) (σ : St) : Int := if σ.way = 0 then σ.far else min S.greatest (σ.far * 2)
/-- the law's blocks -/
noncomputable def lawBs (w E0 R0 F0 : Int) (most : Option Int) : List Int :=
  ((((List.range (F0 - 0).toNat).map fun i : Nat => if w = 1 then E0 + (i : Int) else E0 - 1 - (i : Int)).filter fun k => if w = 1 then decide (R0 ≤ k) else decide (k < R0)).filter fun k => decide (0 ≤ k) && (decide (w = -1) || okMost most k))
theorem filter_rangeKs (lo hi : Int) : ∀ (n : Nat) (a : Int), (rangeKs a n).filter (fun k => decide (lo ≤ k ∧ k < hi)) = rangeKs (max lo a) (min hi (a + n) - max lo a).toNat
  | 0, a => by
    have h1 : min hi (a + (0 : Nat)) ≤ a := Int.le_trans (Int.min_le_right _ _) (by omega)
    have h2 := Int.le_max_right lo a
    have : (min hi (a + (0 : Nat)) - max lo a).toNat = 0 := Int.toNat_of_nonpos (Int.sub_nonpos_of_le (Int.le_trans h1 h2))
    rw [this]; rfl
  | n + 1, a => by
    have ea : a + ((n + 1 : Nat) : Int) = a + 1 + (n : Int) := by omega
    rw [kll_cons, List.filter_cons, filter_rangeKs lo hi n (a + 1), ea]
    by_cases h : lo ≤ a ∧ a < hi
    · rw [if_pos (by simpa using h), Int.max_eq_right (show lo ≤ a + 1 by omega), Int.max_eq_right h.1]
      have hM : a + 1 ≤ min hi (a + 1 + n) := Int.le_min.mpr ⟨by omega, by omega⟩
      generalize min hi (a + 1 + n) = M at hM ⊢
      have e3 : (M - a).toNat = (M - (a + 1)).toNat + 1 := by omega
      rw [e3, kll_cons]
    · rw [if_neg (by simpa using h)]
      by_cases h2 : lo ≤ a
      · have h3 : hi ≤ a := by omega
        have hM : min hi (a + 1 + n) ≤ hi := Int.min_le_left _ _
        rw [Int.max_eq_right (show lo ≤ a + 1 by omega), Int.max_eq_right h2]
        generalize min hi (a + 1 + n) = M at hM ⊢
        have e1 : (M - a).toNat = 0 := Int.toNat_of_nonpos (by omega)
        have e2 : (M - (a + 1)).toNat = 0 := Int.toNat_of_nonpos (by omega)
        rw [e1, e2]; rfl
      · rw [Int.max_eq_left (show a + 1 ≤ lo by omega), Int.max_eq_left (show a ≤ lo by omega)]
theorem tn_max (P X : Int) : (max P X - P).toNat = (X - P).toNat := by
  rcases Int.le_total P X with h | h
  · rw [Int.max_eq_right h]
  · rw [Int.max_eq_left h, Int.sub_self, Int.toNat_of_nonpos (Int.sub_nonpos_of_le h)]; rfl
theorem mm_min (b r : Int) : min (min b r) b = min b r := Int.min_eq_left (Int.min_le_left _ _)
theorem tn_min (P X : Int) : (P - min P X).toNat = (P - X).toNat := by
  rcases Int.le_total P X with h | h
  · rw [Int.min_eq_left h, Int.sub_self, Int.toNat_of_nonpos (Int.sub_nonpos_of_le h)]; rfl
  · rw [Int.min_eq_right h]
theorem rk_min (P X : Int) : rangeKs (min P X) (P - min P X).toNat = rangeKs X (P - X).toNat := by
  rw [tn_min]
  by_cases h : X ≤ P
  · rw [Int.min_eq_right h]
  · rw [Int.toNat_of_nonpos (by omega)]; rfl
theorem range_down (E : Int) (n : Nat) : (List.range n).map (fun i : Nat => E - 1 - (i : Int)) = (rangeKs (E - n) n).reverse := by
  apply List.ext_getElem
  · simp [rangeKs]
  · intro i h1 h2
    simp only [List.length_map, List.length_range] at h1
    simp only [List.getElem_map, List.getElem_range, rangeKs, List.getElem_reverse, List.length_map, List.length_range]
    omega
theorem lawWay_eq {σ : St} {b m : Int} (h : σ.way = 0 ∨ σ.way = 1 ∨ σ.way = -1) : lawWay σ b m = wayTo σ b m := by
  unfold lawWay wayTo
  rcases h with h | h | h <;> rw [h] <;> (repeat' split) <;> omega
structure Ok (S : Sc) (σ : St) : Prop where
  way : σ.way = 0 ∨ σ.way = 1 ∨ σ.way = -1
  reached : σ.way ≠ 0 → σ.reached ≠ none
  far : 1 ≤ σ.far ∧ σ.far ≤ S.greatest
  low : 0 ≤ σ.low
  high : 0 ≤ σ.high
theorem accSt_far (S : Sc) (σ : St) (b m : Int) : (accSt S σ b m).far = farOf S σ := by
  unfold accSt farOf goS
  dsimp only
  split
  · rfl
  · dsimp only; rw [Int.mul_comm]
theorem accSt_edge {S : Sc} {σ : St} {b m : Int} : (accSt S σ b m).low = b ∧ (accSt S σ b m).high = b + m ∧ (accSt S σ b m).stamp = S.stamp + 1 := by
  unfold accSt goS; dsimp only; split <;> exact ⟨rfl, rfl, rfl⟩
theorem accSt_rOf {S : Sc} {σ : St} {b m : Int} : rOf (accSt S σ b m) = if σ.way = 0 then (if wayTo σ b m = 1 then b + m else b) else rOf σ := by
  unfold accSt goS rOf; dsimp only; split <;> simp [*]
theorem blocks_eq {S : Sc} {σ : St} {b m : Int} {most : Option Int} (h : Ok S σ) (hb : 0 ≤ b) (hm : 1 ≤ m) (hw : wayTo σ b m ≠ 0) :
    accBs (accSt S σ b m) most = lawBs (wayTo σ b m) (edgeOf (wayTo σ b m) b m) (reachOf σ (wayTo σ b m) (edgeOf (wayTo σ b m) b m)) (farOf S σ) most := by
  have hF : 1 ≤ farOf S σ := by unfold farOf; have := h.far; split <;> omega
  have hw2 : wayTo σ b m = 1 ∨ wayTo σ b m = -1 := by revert hw; unfold wayTo; (repeat' split) <;> simp
  obtain ⟨e1, e2, -⟩ := accSt_edge (S := S) (σ := σ) (b := b) (m := m)
  unfold accBs lawBs
  dsimp only
  rw [accSt_way, accSt_rOf]
  obtain ⟨F, hFe⟩ : ∃ F, F = farOf S σ := ⟨_, rfl⟩
  obtain ⟨r, hre⟩ : ∃ r, r = rOf σ := ⟨_, rfl⟩
  rcases hw2 with hw2 | hw2
  · rw [if_pos hw2]
    unfold aheadB aheadE edgeOf reachOf
    rw [accSt_way, accSt_far, e2, hw2, ← hFe, ← hre]
    simp only [if_true]
    have : (List.range (F - 0).toNat).map (fun i : Nat => b + m + (i : Int)) = rangeKs (b + m) F.toNat := by simp [rangeKs]
    rw [this, List.filter_filter, List.filter_congr (q := fun k => decide (max 0 (if σ.way = 0 then b + m else max (b + m) r) ≤ k ∧ k < (match most with | none => b + m + F | some q => q))) ?_, filter_rangeKs]
    · have hFt : (F.toNat : Int) = F := by rw [hFe]; omega
      have hbm : (0 : Int) ≤ b + m := by omega
      have hP : b + m ≤ max (b + m) r := Int.le_max_left _ _
      have hP0 : 0 ≤ max (b + m) r := Int.le_trans hbm hP
      clear hFe hF hw h e1 e2 hw2 hre this
      cases most <;> (dsimp only; split <;> (try simp only [Int.max_self, Int.min_self, hFt, tn_max, Int.max_eq_right hbm, Int.max_eq_right hP0, Int.max_eq_left hP, Int.min_comm (b + m + F)]))
    · intro k hk
      have := mem_rangeKs hk
      have hF1 : 1 ≤ F := by omega
      cases most <;> (rw [Bool.eq_iff_iff]; simp only [okMost, Bool.and_eq_true, Bool.or_eq_true, decide_eq_true_eq, or_true, and_true, Int.max_le]; split <;> (try simp only [Int.max_le]) <;> omega)
  · have hne : ¬ (wayTo σ b m = 1) := by omega
    rw [if_neg hne]
    unfold aheadB aheadE edgeOf reachOf
    rw [accSt_way, accSt_far, e1, hw2, ← hFe, ← hre]
    have h11 : ¬ ((-1 : Int) = 1) := by decide
    simp only [if_neg h11]
    rw [show (F - 0).toNat = F.toNat by omega, range_down, List.filter_reverse, List.filter_reverse, List.filter_filter, List.filter_congr (q := fun k => decide (0 ≤ k ∧ k < (if σ.way = 0 then b else min b r))) ?_, filter_rangeKs]
    · have hFt : (F.toNat : Int) = F := by rw [hFe]; omega
      congr 1
      clear hFe hF hw h e1 e2 hw2 hre
      simp only [rk_min, hFt, Int.sub_add_cancel]
      split
      · simp only [Int.min_self]
      · simp only [mm_min]
    · intro k hk
      have := mem_rangeKs hk
      rw [Bool.eq_iff_iff]
      simp only [Bool.and_eq_true, Bool.or_eq_true, decide_eq_true_eq, true_or, and_true]
/-- what the law stores as the place reached -/
noncomputable def lastOf (w R0 : Int) (bs : List Int) : Int := if bs = [] then R0 else if w = 1 then bs.getLastD 0 + 1 else bs.getLastD 0
theorem rangeKs_last (a : Int) : ∀ n : Nat, (rangeKs a (n + 1)).getLastD 0 = a + n := by
  intro n
  unfold rangeKs
  rw [List.range_succ, List.map_append, List.map_cons, List.map_nil, List.getLastD_concat]
theorem reach_eq {S : Sc} {σ : St} {b m : Int} {most : Option Int} (hw : wayTo σ b m ≠ 0) :
    lastOf (wayTo σ b m) (reachOf σ (wayTo σ b m) (edgeOf (wayTo σ b m) b m)) (accBs (accSt S σ b m) most) = (if (accSt S σ b m).way = 1 then aheadE (accSt S σ b m) (rOf (accSt S σ b m)) most else aheadB (accSt S σ b m) (rOf (accSt S σ b m)) most) := by
  have hw2 : wayTo σ b m = 1 ∨ wayTo σ b m = -1 := by revert hw; unfold wayTo; (repeat' split) <;> simp
  obtain ⟨e1, e2, -⟩ := accSt_edge (S := S) (σ := σ) (b := b) (m := m)
  have hBE : aheadB (accSt S σ b m) (rOf (accSt S σ b m)) most ≤ aheadE (accSt S σ b m) (rOf (accSt S σ b m)) most := by
    unfold aheadB aheadE; cases most <;> (split <;> (try dsimp only) <;> first | exact Int.le_max_left _ _ | exact Int.min_le_left _ _)
  have hR : reachOf σ (wayTo σ b m) (edgeOf (wayTo σ b m) b m) = if wayTo σ b m = 1 then aheadB (accSt S σ b m) (rOf (accSt S σ b m)) most else aheadE (accSt S σ b m) (rOf (accSt S σ b m)) most := by
    unfold reachOf edgeOf aheadB aheadE
    rw [accSt_way, accSt_rOf, e1, e2]
    rcases hw2 with h | h <;> rw [h] <;> (split <;> simp <;> omega)
  rw [hR]
  unfold lastOf accBs
  dsimp only
  rw [accSt_way]
  obtain ⟨B, hB⟩ : ∃ B, B = aheadB (accSt S σ b m) (rOf (accSt S σ b m)) most := ⟨_, rfl⟩
  obtain ⟨E', hE⟩ : ∃ B, B = aheadE (accSt S σ b m) (rOf (accSt S σ b m)) most := ⟨_, rfl⟩
  rw [← hB, ← hE] at hBE ⊢
  rcases hw2 with h | h
  · rw [h]
    simp only [if_true]
    cases hn : (E' - B).toNat with
    | zero => rw [if_pos (by rfl)]; omega
    | succ n => rw [if_neg (by rw [kll_cons]; simp), rangeKs_last]; omega
  · rw [h]
    have h11 : ¬ ((-1 : Int) = 1) := by decide
    simp only [if_neg h11]
    cases hn : (E' - B).toNat with
    | zero => rw [if_pos (by rfl)]; omega
    | succ n => rw [if_neg (by rw [kll_cons]; simp), kll_cons, List.reverse_cons, List.getLastD_concat]
/-- what the law keeps behind the stream τ -/
noncomputable def lawKeep (w E0 st : Int) (e : St) : Bool := decide (e.stamp = st) || decide (e.way = 0 - w) || !decide ((if w = 1 then e.high else e.low) = E0)
theorem keep_eq {τ e : St} (hw : τ.way = 1 ∨ τ.way = -1) (he : e.way = 0 ∨ e.way = 1 ∨ e.way = -1) : (decide (e.stamp = τ.stamp) || !likeB e τ) = lawKeep τ.way (if τ.way = 1 then τ.high else τ.low) τ.stamp e := by
  unfold lawKeep likeB
  rw [Bool.eq_iff_iff]
  rcases hw with h | h <;> rcases he with h2 | h2 | h2 <;> simp [h, h2]
end

section
theorem wNpN0 : True := by
  k_with_none
  (k_with "np_omega" => (first
      | (with_reducible assumption)
      | omega -splitDisjunctions
      | ((with_reducible show @Ne Nat _ _); with_reducible refine Ne.symm ?_; with_reducible assumption)
      | (refine Nat.le_antisymm ?_ ?_ <;> omega -splitDisjunctions)
      | (refine Int.le_antisymm ?_ ?_ <;> omega -splitDisjunctions)
      | omega +splitDisjunctions))
  (k_with "np_mm" => (first
      | (simp (disch := (first | assumption | exact Int.le_of_lt (by assumption) | exact Int.not_lt.mp (by assumption) | omega)) only [Int.max_eq_right, Int.max_eq_left, Int.min_eq_right, Int.min_eq_left]; done)
      | omega))
  (k_with "np_lt" => (k_dflt (repeat (intro _)); k_dflt (refine Got.mk ?_)))
  (k_with "np_ne" => (first
      | (with_reducible refine Nat.ne_of_lt ?_; with_reducible assumption)
      | (with_reducible refine Nat.ne_of_gt ?_; with_reducible assumption)
      | (with_reducible assumption)
      | (with_reducible refine Ne.symm ?_; with_reducible assumption)
      | (refine neN ?_; (try dsimp only); omega)))
  (k_with "np_mem" => (first
      | ((repeat' (with_reducible first | exact List.Mem.head _ | refine List.Mem.tail _ ?_)); done)
      | (with_reducible assumption)
      | assumption))
  (k_with "ite" => (k_closed; k_dflt (first | refine ite_pos (by decide) ?_ | refine ite_neg (by decide) ?_)))
  (k_with "callWith ref" => (k_here; k_dflt (first | (refine' callWith_K ?k1_q ?k2_q ?_; (case k1_q => k_asm); (case k2_q => k_is); k_whole) | (refine' callWith_K0 ?k1_q ?k2_q ?_; (case k1_q => exact Frag.In.keeps (by k_asm) (Fr.keep (by k_asm))); (case k2_q => k_is); k_whole))))
  (k_with "CompEnd" => (with_reducible refine haltIt ?_))
  (k_with "CompSrc" => (with_reducible refine haltIt ?_))
  (k_with "CompSrcT" => (with_reducible refine haltIt ?_))
  (k_with "np_inst" => (first
      | (refine' InstAt.of_base ?F_q ?h1_q ?h2_q; (case F_q => k_asm); (case h1_q => k_asm); (case h2_q => k_asm))
      | (refine' InstAt.of_mixed ?F_q ?h1_q ?N_q ?h2_q; (case F_q => k_asm); (case h1_q => k_asm); (case N_q => k_asm); (case h2_q => k_mem))))
  (k_with "np_let" => ((try ((with_reducible rename News _ _ _ _ => cN'q); (fail_if_success (have := lacksIt cN'q (by goal_lacks List.cons; exact fun _ => trivial))); refine news_let cN'q ?_; clear cN'q; intro _ cN'q)); (try ((with_reducible rename Fr _ _ _ _ => cF'q); (fail_if_success (have := lacksIt cF'q (by goal_lacks Option.some; exact fun _ => trivial))); refine fr_let cF'q ?_; clear cF'q; intro _ cF'q))))
  (k_with "getItem ref str" => (k_here; (with_reducible show wpAny _ _ (getItem (Value.ref _) (Value.str _ _)) _ _ _); k_dflt (refine kdt_getItem (knd := PySem.strKind _ _) (by k_asm) (by k_mem) (by k_asm) (strKind_is _ _ _ _) (by rfl) ?_)))
  (k_with "execs cons" => (k_here; (try (with_reducible refine gentok ?_; intro _)); walk_at "np_let"; (with_reducible refine wpAny_execs_cons ?_); (try dsimp only); (try k_fold)))
  (k_with "execs nil" => (k_here; with_reducible refine gentok ?_; intro _))
  (k_with "subscriptTail Name Constant ref int" => (k_here; (with_reducible show wpAny _ _ (subscriptTail _ _ (Value.ref _) (Value.int _ _)) _ _ _); k_dflt (refine' item_gl ?F_q ?I_q ?a_q ?b_q ?x_q ?_ ?hs_q; (case F_q => k_asm); (case I_q => with_reducible assumption); (case a_q => decide); (case b_q => decide); (case x_q => rfl); (case hs_q => with_unfolding_all rfl); k_whole)))
  (k_with "np_handed" => (exact handed_opt _ _))
  (k_with "np_enter" => (case ho => k_dflt k_is); (case hcd => k_dflt k_is); (try (case hr => (first | omega | (dsimp only; omega)))); (case hbind => first | exact BindsTo.of_eq rfl | (refine' binds_K ?bx_q ?b1_q ?b2_q ?b3_q ?b4_q ?b5_q; (case bx_q => assumption); (case b1_q => exact rfl); (case b2_q => k_dflt k_is); (case b3_q => exact rfl); (case b4_q => exact rfl); (case b5_q => exact rfl))); (case hloc => exact locs rfl); (case ha => exact rfl); (case hb => exact rfl); (case hc => exact rfl); (case hd => decide))
  (k_with "np_enterX" => (case ho => k_dflt k_is); (case hcd => k_dflt k_is); (try (case hr => (first | omega | (dsimp only; omega)))); (case hbind => first | exact BindsTo.of_eq rfl | (refine' binds_K ?bx_q ?b1_q ?b2_q ?b3_q ?b4_q ?b5_q; (case bx_q => assumption); (case b1_q => exact rfl); (case b2_q => k_dflt k_is); (case b3_q => exact rfl); (case b4_q => exact rfl); (case b5_q => exact rfl))); (case hkd => exact rfl); (case hnd => decide +kernel); (case ha => exact rfl); (case hb => exact rfl); (case hc => exact rfl))
  trivial
theorem wNpN1 : True := by
  (k_with "subscriptTail Name Constant ref str" => (k_here; (with_reducible show wpAny _ _ (subscriptTail _ _ (Value.ref _) (Value.str _ _)) _ _ _); k_dflt (refine kda_item (knd := PySem.strKind _ _) (by k_asm) (by k_mem) (by k_asm) (strKind_is _ _ _ _) (by rfl) ?_)))
  (k_with "setItem ref str" => (k_here; k_dflt (refine' kda_set (knd := PySem.strKind _ _) ?F_q ?N_q ?U_q ?d_q (strKind_is _ _ _ _) ?z_q ?_; (case F_q => k_asm); (case N_q => k_asm); (case U_q => k_updF); (case d_q => k_asm); (case z_q => rw [sizeLine_eq]; exact Nat.le_of_ble_eq_true (by with_unfolding_all rfl))); intro _ _ _ N'q hd'q; (try simp only [stored_streams, stored_stamp, stored_hits, stored_misses, stored_asked] at hd'q); (try dsimp only at N'q)))
  (k_with "eval ListComp" => (k_here; first | (lct_look; k_dflt (refine LCt.ListComp_T (F₀ := by k_asm) (by with_unfolding_all rfl) (by decide) (by rfl) (by decide) (by rfl) ?_)) | ((with_reducible show wpAny _ _ (eval (Expr.ListComp _ [Comprehension.mk _ _ [] _] _ _) _) _ _ _); k_dflt (refine LCg.ListComp_U (F₀ := by k_asm) (by with_unfolding_all rfl) (by decide) (by rfl) (by decide) (by rfl) ?_))))
  (k_with "exec Assign cons ListComp" => (k_here; first | (lct_look; k_dflt (refine LCt.Assign_ListComp_T (F₀ := by k_asm) (by rfl) (by with_unfolding_all rfl) (by with_unfolding_all rfl) (by decide) (by rfl) (by decide) (by rfl) (by rfl) (by rfl) ?_)) | (k_dflt (refine LCg.Assign_ListComp_U (F₀ := by k_asm) (by rfl) (by with_unfolding_all rfl) (by with_unfolding_all rfl) (by decide) (by rfl) (by decide) (by rfl) (by rfl) (by rfl) ?_))))
  (k_with "call builtin:len" => (k_here; (with_reducible show wpAny _ _ (call (Value.builtin "len") [Value.ref _]) _ _ _); (refine' len_L ?N_q ?m_q ?f_q ?_; (case N_q => k_asm); (case m_q => k_mem); (case f_q => with_reducible assumption))))
  (k_with "call ref" => (k_here; (with_reducible show wpAny _ _ (call (Value.ref 191) _) _ _ _); (with_reducible rename Fr _ _ _ _ => cF'q); (with_reducible rename News _ _ _ _ => cN'q); refine' law_way_spec ?G_q ?k_q ?a_q ?d_q ?x_q ?_; (case G_q => k_asm); (case k_q => exact Fr.keep cF'q); (case a_q => exact rfl); (case d_q => (simp only [depth_under_make, depth_in1, depth_deeper]; omega)); (case x_q => exact LAt.up (by assumption) (Fr.keep cF'q)); k_whole; intro _ _ _ U'q; (have F'q := Fr.keeps cF'q U'q); (have N'q := News.grown cN'q U'q); (clear cF'q cN'q U'q); (try dsimp only)))
  trivial
section
theorem eq_nil_B {prog : Program} {w : World} {A : Around} {s : Shared} {Q E : Value → Shared → Prop} {T l : Addr} {ls : List LEnt} {n k : Nat} {bb : Bool} (hb : ls.isEmpty = bb) (hT : s.heap.get? T = some (listOf (refsL ls).toArray n)) (hl : LsAt s.heap ls) (h0 : s.heap.get? l = some (listOf #[] k)) (hu : A.units + 64 < cLine)
    (h : Q (.bool bb) s) : wpAny (model prog w) A (compareOp .Eq (.ref T) (.ref l)) Q E s := eq_nil_L hT hl h0 hu (by rw [hb]; exact h)
theorem LsAt.filt {h : Heap} {ls : List LEnt} {p : LEnt → Bool} (x : LsAt h ls) : LsAt h (ls.filter p) := fun e he => x e (List.mem_filter.mp he).1
end
theorem wNpN2 : True := by
  (k_with "compareOp Eq ref ref" => (k_here; (with_reducible show wpAny _ _ (compareOp CmpOp.Eq (Value.ref _) (Value.ref _)) _ _ _); k_dflt (refine' eq_nil_B ?b_q ?T_q ?l_q ?n_q ?u_q ?_; (case T_q => exact News.get (by k_asm) (by k_mem)); (case b_q => assumption); (case l_q => exact LsAt.up (LsAt.filt (by assumption)) (Fr.keep (by k_asm))); (case n_q => exact News.get (by k_asm) (by k_mem)); (case u_q => (simp only [units_deeper, units_in1]; omega)))))
  trivial
section
variable {w : World} {A : Around} {s : Shared} {h₀ : Heap} {Q E : Value → Shared → Prop} {x d : Addr} {σ : St}
end
end

section
theorem offNpO : True := by w_top off; trivial
theorem wNpO0 : True := by
  k_with_none
  (k_with "np_omega" => (first
      | (with_reducible assumption)
      | omega -splitDisjunctions
      | ((with_reducible show @Ne Nat _ _); with_reducible refine Ne.symm ?_; with_reducible assumption)
      | (refine Nat.le_antisymm ?_ ?_ <;> omega -splitDisjunctions)
      | (refine Int.le_antisymm ?_ ?_ <;> omega -splitDisjunctions)
      | omega +splitDisjunctions))
  (k_with "np_mm" => (first
      | (simp (disch := (first | assumption | exact Int.le_of_lt (by assumption) | exact Int.not_lt.mp (by assumption) | omega)) only [Int.max_eq_right, Int.max_eq_left, Int.min_eq_right, Int.min_eq_left]; done)
      | omega))
  (k_with "np_lt" => (k_dflt (repeat (intro _)); k_dflt (refine Got.mk ?_)))
  (k_with "np_ne" => (first
      | (with_reducible refine Nat.ne_of_lt ?_; with_reducible assumption)
      | (with_reducible refine Nat.ne_of_gt ?_; with_reducible assumption)
      | (with_reducible assumption)
      | (with_reducible refine Ne.symm ?_; with_reducible assumption)
      | (refine neN ?_; (try dsimp only); omega)))
  (k_with "np_mem" => (first
      | ((repeat' (with_reducible first | exact List.Mem.head _ | refine List.Mem.tail _ ?_)); done)
      | (with_reducible assumption)
      | assumption))
  (k_with "ite" => (k_closed; k_dflt (first | refine ite_pos (by decide) ?_ | refine ite_neg (by decide) ?_)))
  (k_with "callWith ref" => (k_here; k_dflt (first | (refine' callWith_K ?k1_q ?k2_q ?_; (case k1_q => k_asm); (case k2_q => k_is); k_whole) | (refine' callWith_K0 ?k1_q ?k2_q ?_; (case k1_q => exact Frag.In.keeps (by k_asm) (Fr.keep (by k_asm))); (case k2_q => k_is); k_whole))))
  (k_with "CompEnd" => (with_reducible refine haltIt ?_))
  (k_with "CompSrc" => (with_reducible refine haltIt ?_))
  (k_with "CompSrcT" => (with_reducible refine haltIt ?_))
  (k_with "np_inst" => (first
      | (refine' InstAt.of_base ?F_q ?h1_q ?h2_q; (case F_q => k_asm); (case h1_q => k_asm); (case h2_q => k_asm))
      | (refine' InstAt.of_mixed ?F_q ?h1_q ?N_q ?h2_q; (case F_q => k_asm); (case h1_q => k_asm); (case N_q => k_asm); (case h2_q => k_mem))))
  (k_with "np_let" => ((try ((with_reducible rename News _ _ _ _ => cN'q); (fail_if_success (have := lacksIt cN'q (by goal_lacks List.cons; exact fun _ => trivial))); refine news_let cN'q ?_; clear cN'q; intro _ cN'q)); (try ((with_reducible rename Fr _ _ _ _ => cF'q); (fail_if_success (have := lacksIt cF'q (by goal_lacks Option.some; exact fun _ => trivial))); refine fr_let cF'q ?_; clear cF'q; intro _ cF'q))))
  (k_with "getItem ref str" => (k_here; (with_reducible show wpAny _ _ (getItem (Value.ref _) (Value.str _ _)) _ _ _); k_dflt (refine kdt_getItem (knd := PySem.strKind _ _) (by k_asm) (by k_mem) (by k_asm) (strKind_is _ _ _ _) (by rfl) ?_)))
  (k_with "execs cons" => (k_here; (try (with_reducible refine gentok ?_; intro _)); walk_at "np_let"; (with_reducible refine wpAny_execs_cons ?_); (try dsimp only); (try k_fold)))
  (k_with "execs nil" => (k_here; with_reducible refine gentok ?_; intro _))
  (k_with "subscriptTail Name Constant ref int" => (k_here; (with_reducible show wpAny _ _ (subscriptTail _ _ (Value.ref _) (Value.int _ _)) _ _ _); k_dflt (refine' item_gl ?F_q ?I_q ?a_q ?b_q ?x_q ?_ ?hs_q; (case F_q => k_asm); (case I_q => with_reducible assumption); (case a_q => decide); (case b_q => decide); (case x_q => rfl); (case hs_q => with_unfolding_all rfl); k_whole)))
  (k_with "np_handed" => (exact handed_opt _ _))
  (k_with "np_enter" => (case ho => k_dflt k_is); (case hcd => k_dflt k_is); (try (case hr => (first | omega | (dsimp only; omega)))); (case hbind => first | exact BindsTo.of_eq rfl | (refine' binds_K ?bx_q ?b1_q ?b2_q ?b3_q ?b4_q ?b5_q; (case bx_q => assumption); (case b1_q => exact rfl); (case b2_q => k_dflt k_is); (case b3_q => exact rfl); (case b4_q => exact rfl); (case b5_q => exact rfl))); (case hloc => exact locs rfl); (case ha => exact rfl); (case hb => exact rfl); (case hc => exact rfl); (case hd => decide))
  (k_with "np_enterX" => (case ho => k_dflt k_is); (case hcd => k_dflt k_is); (try (case hr => (first | omega | (dsimp only; omega)))); (case hbind => first | exact BindsTo.of_eq rfl | (refine' binds_K ?bx_q ?b1_q ?b2_q ?b3_q ?b4_q ?b5_q; (case bx_q => assumption); (case b1_q => exact rfl); (case b2_q => k_dflt k_is); (case b3_q => exact rfl); (case b4_q => exact rfl); (case b5_q => exact rfl))); (case hkd => exact rfl); (case hnd => decide +kernel); (case ha => exact rfl); (case hb => exact rfl); (case hc => exact rfl))
  trivial
theorem wNpO1 : True := by
  (k_with "call builtin:list.append" => (k_here; (with_reducible show wpAny _ _ (call (Value.builtin _) [Value.ref _, Value.ref _]) _ _ _); k_dflt (refine' append_K ?k1_q ?k2_q ?k3_q ?_ ?z_q; (case k1_q => k_asm); (case k2_q => k_asm); (case k3_q => k_upd); (case z_q => (simp only [refsL, List.size_toArray, List.length_map]; rw [sizeLine_eq]; omega)); k_whole); intro _ _ _; (try k_sweep)))
  (k_with "subscriptTail Name Constant ref str" => (k_here; (with_reducible show wpAny _ _ (subscriptTail _ _ (Value.ref _) (Value.str _ _)) _ _ _); k_dflt (refine kda_item (knd := PySem.strKind _ _) (by k_asm) (by k_mem) (by k_asm) (strKind_is _ _ _ _) (by rfl) ?_)))
  (k_with "subscriptTail ListComp" => (with_reducible refine haltIt ?_))
  (k_with "setItem ref str" => (k_here; k_dflt (refine' kda_set (knd := PySem.strKind _ _) ?F_q ?N_q ?U_q ?d_q (strKind_is _ _ _ _) ?z_q ?_; (case F_q => k_asm); (case N_q => k_asm); (case U_q => k_updF); (case d_q => k_asm); (case z_q => rw [sizeLine_eq]; exact Nat.le_of_ble_eq_true (by with_unfolding_all rfl))); intro _ _ _ N'q hd'q; (try simp only [stored_streams, stored_stamp, stored_hits, stored_misses, stored_asked] at hd'q); (try dsimp only at N'q)))
  (k_with "eval ListComp" => (k_here; first | (lct_look; k_dflt (refine LCt.ListComp_T (F₀ := by k_asm) (by with_unfolding_all rfl) (by decide) (by rfl) (by decide) (by rfl) ?_)) | ((with_reducible show wpAny _ _ (eval (Expr.ListComp _ [Comprehension.mk _ _ [] _] _ _) _) _ _ _); k_dflt (refine LCg.ListComp_U (F₀ := by k_asm) (by with_unfolding_all rfl) (by decide) (by rfl) (by decide) (by rfl) ?_))))
  (k_with "exec Assign cons ListComp" => (k_here; first | (lct_look; k_dflt (refine LCt.Assign_ListComp_T (F₀ := by k_asm) (by rfl) (by with_unfolding_all rfl) (by with_unfolding_all rfl) (by decide) (by rfl) (by decide) (by rfl) (by rfl) (by rfl) ?_)) | (k_dflt (refine LCg.Assign_ListComp_U (F₀ := by k_asm) (by rfl) (by with_unfolding_all rfl) (by with_unfolding_all rfl) (by decide) (by rfl) (by decide) (by rfl) (by rfl) (by rfl) ?_))))
  (k_with "call builtin:len" => (k_here; (with_reducible show wpAny _ _ (call (Value.builtin "len") [Value.ref _]) _ _ _); (refine' len_L ?N_q ?m_q ?f_q ?_; (case N_q => k_asm); (case m_q => k_mem); (case f_q => with_reducible assumption))))
  (k_with "call ref" => (k_here; (with_reducible show wpAny _ _ (call (Value.ref 191) _) _ _ _); (with_reducible rename Fr _ _ _ _ => cF'q); (with_reducible rename News _ _ _ _ => cN'q); refine' law_way_spec ?G_q ?k_q ?a_q ?d_q ?x_q ?_; (case G_q => k_asm); (case k_q => exact Fr.keep cF'q); (case a_q => exact rfl); (case d_q => (simp only [depth_under_make, depth_in1, depth_deeper]; omega)); (case x_q => exact LAt.up (by assumption) (Fr.keep cF'q)); k_whole; intro _ _ _ U'q; (have F'q := Fr.keeps cF'q U'q); (have N'q := News.grown cN'q U'q); (clear cF'q cN'q U'q); (try dsimp only)))
  (k_with "compareOp Eq ref ref" => (k_here; (with_reducible show wpAny _ _ (compareOp CmpOp.Eq (Value.ref _) (Value.ref _)) _ _ _); k_dflt (refine' eq_nil_B ?b_q ?T_q ?l_q ?n_q ?u_q ?_; (case T_q => exact News.get (by k_asm) (by k_mem)); (case b_q => assumption); (case l_q => exact LsAt.up (LsAt.filt (by assumption)) (Fr.keep (by k_asm))); (case n_q => exact News.get (by k_asm) (by k_mem)); (case u_q => (simp only [units_deeper, units_in1]; omega)))))
  trivial
section
variable {w : World} {A : Around} {s : Shared} {h₀ : Heap} {Q E : Value → Shared → Prop} {x d : Addr} {σ : St}
theorem refsL_snoc (es : List LEnt) (e : LEnt) : (refsL es).toArray.push (.ref e.1) = (refsL (es ++ [e])).toArray := by simp [refsL]
theorem get_snocL {g h : Heap} {L a x : Addr} {news : List (Addr × Obj)} {es : List LEnt} {σ : St} {k : Nat} (N : News g L h news) (hm : (a, listOf ((refsL es).toArray.push (.ref x)) k) ∈ news) : h.get? a = some (listOf (refsL (es ++ [(x, σ)])).toArray k) := by
  rw [← refsL_snoc]; exact N.get hm
theorem LAt.mkN {h : Heap} {a : Addr} {n : Nat} {t0 t1 t2 t4 t5 : Tok} {w l hi f st : Int} (e : h.get? a = some (listOf #[.int w t0, .int l t1, .int hi t2, .none, .int f t4, .int st t5] n)) : LAt h a ⟨w, l, hi, none, f, st⟩ :=
  ⟨fun i => match i with | 0 => t0 | 1 => t1 | 2 => t2 | 4 => t4 | _ => t5, n, e⟩
theorem ints_of_all2 {ls : List LEnt} {ys : List Value} (h : All2 (fun (e : LEnt) y => ∃ t, y = Value.int e.2.stamp t) ls ys) : IntsAre ys (ls.map fun e => e.2.stamp) := by
  induction h with
  | nil => exact .nil
  | cons h _ ih => obtain ⟨t, rfl⟩ := h; exact .cons _ _ ih
theorem first_split {M : Int} : ∀ {ls : List LEnt}, M ∈ ls.map (fun e => e.2.stamp) → ∃ pre e post, ls = pre ++ e :: post ∧ e.2.stamp = M ∧ ∀ a ∈ pre, a.2.stamp ≠ M
  | [], h => nomatch h
  | a :: r, h => by
    by_cases ha : a.2.stamp = M
    · exact ⟨[], a, r, rfl, ha, fun _ h => nomatch h⟩
    · have hr : M ∈ r.map (fun e => e.2.stamp) := by
        rw [List.map_cons] at h
        rcases List.mem_cons.mp h with h | h
        · exact absurd h.symm ha
        · exact h
      obtain ⟨pre, e, post, h1, h2, h3⟩ := first_split hr
      refine ⟨a :: pre, e, post, by rw [h1]; rfl, h2, fun x hx => ?_⟩
      rcases List.mem_cons.mp hx with rfl | hx
      · exact ha
      · exact h3 x hx
theorem eqv_stL_ne {σ τ : St} (h : σ.stamp ≠ τ.stamp) : PyData.eqv (stL σ) (stL τ) = false := by
  simp only [stL, PyData.eqv, PyData.eqvAll]
  have : (σ.stamp == τ.stamp) = false := by simpa using h
  simp [this]
theorem remove_law {prog : Program} {w : World} {A : Around} {E : Value → Shared → Prop} {s : Shared} {g : Heap} {L T x : Addr} {m : Str → Option Value} {news news' : List (Addr × Obj)} {pre post : List LEnt} {σ : St} {n : Nat} {Q : Value → Shared → Prop}
    (hE : LsAt g (pre ++ (x, σ) :: post)) (hn : ((pre ++ (x, σ) :: post).map (·.1)).Nodup) (hp : ∀ a ∈ pre, a.2.stamp ≠ σ.stamp) (F : Fr g L s.heap m) (N : News g L s.heap news) (hu : A.units + 100 < cLine) (hz : (pre ++ (x, σ) :: post).length ≤ 100)
    (U : Upd T (listOf (refsL (pre ++ (x, σ) :: post)).toArray n) (listOf (refsL (pre ++ post)).toArray (n + 1)) news news')
    (h : ∀ h', Fr g L h' m → News g L h' news' → Q .none { s with heap := h' }) : wpAny (model prog w) A (call (.builtin "list.remove") [.ref T, .ref x]) Q E s := by
  have hs : (refsL (pre ++ (x, σ) :: post)).toArray.size = (pre ++ (x, σ) :: post).length := by simp [refsL]
  have he : (refsL (pre ++ (x, σ) :: post)).toArray.eraseIdxIfInBounds pre.length = (refsL (pre ++ post)).toArray := by
    apply Array.toList_inj.mp
    simp [refsL, List.eraseIdx_append_of_length_le]
  have hj : (refsL (pre ++ (x, σ) :: post)).toArray[pre.length]'(by rw [hs]; simp) = .ref x := by simp [refsL]
  rw [← he] at U
  refine np_remove F N U (by rw [hs]; simp) (by rw [hs, sizeLine_eq]; omega) (fun i hi hlt A' ha => ?_) (fun A' ha => ?_) h
  · have hi2 : (refsL (pre ++ (x, σ) :: post)).toArray[i] = .ref (pre[i]).1 := by simp [refsL, List.getElem_append_left, hlt]
    rw [hi2]
    have hmem : pre[i] ∈ pre := List.getElem_mem hlt
    have hne : (pre[i]).1 ≠ x := by
      rw [List.map_append, List.map_cons, List.nodup_append] at hn
      exact hn.2.2 _ (List.mem_map_of_mem hmem) _ (.head _)
    obtain ⟨as, r1⟩ := (reads_L (hE _ (List.mem_append_left _ hmem))).up F.keep
    obtain ⟨bs, r2⟩ := (reads_L (hE (x, σ) (List.mem_append_right _ (.head _)))).up F.keep
    refine SeqAt.EqAt.of_refs hne fun prog w E Q hq => eq_dataH r1 r2 ((good_stL _).shaped (by omega)) ((good_stL _).shaped (by omega)) (by omega) ?_
    rw [eqv_stL_ne (hp _ hmem)]
    exact hq
  · rw [hj]; exact eqAt_same
theorem law_access_none {D T : Addr} {S : Sc} {ls : List LEnt} {nt : Nat} {b m : Int} {most : Option Int} {tb tm ts : Tok} (G : Gr w h₀) (hk : Up h₀ s.heap) (hA : A.handled = none) (hd : A.depth + 8 < recursionLimit) (hu : A.units + 200 < cLine)
    (W : LW w s.heap D T S ls nt) (hlen : ls.length ≤ 50) (hfD : h₀.get? D = none) (hfT : h₀.get? T = none)
    (hno : ∀ e ∈ ls, lawWay e.2 b m = 0) (hf : ∀ e ∈ ls, h₀.get? e.1 = none) (hmany : 1 ≤ S.many)
    (rk : (ls.any fun e => hasB e.2 b m) = true → ∀ h' tk c k o, KeepBut [D] s.heap h' → s.heap.get? c = none → h'.get? c = some (listOf #[] k) → h'.get? D = some o → DIs w o { S with stamp := S.stamp + 1 } T → Q (.ref c) {s with heap := h', toks := tk})
    (ret : (ls.any fun e => hasB e.2 b m) = false → ∀ h' tk c k o ls' x k2, KeepBut [D, T] s.heap h' → s.heap.get? c = none → h'.get? c = some (listOf #[] k) → h'.get? D = some o → DIs w o { S with stamp := S.stamp + 1, misses := S.misses + 1 } T →
      s.heap.get? x = none → h'.get? T = some (listOf (refsL (ls' ++ [(x, ⟨0, b, b + m, none, S.least, S.stamp + 1⟩)])).toArray k2) → LAt h' x ⟨0, b, b + m, none, S.least, S.stamp + 1⟩ → List.Sublist ls' ls → ls'.map (·.2) = (if (ls.length : Int) = S.many then dropStale (ls.map (·.2)) else ls.map (·.2)) → Q (.ref c) {s with heap := h', toks := tk}) :
    wpAny (model Pg w) A (call (.ref 196) [.ref D, .int b tb, .int m tm, optV most ts]) Q E s := by
  obtain ⟨ah, ad, af, ag, au⟩ := A
  obtain rfl : ah = none := hA
  dsimp only at hd hu
  have W' := W
  obtain ⟨⟨oD, hD, hoD⟩, hT, hE, hnd, hne⟩ := W
  have hDT : @Ne Nat D T := ne_of_cls hD hT (by rw [hoD.cls]; simp)
  have hcD := hoD.cls
  obtain ⟨t, hoD⟩ := hoD
  refine' enterX (D := [(D, oD), (T, listOf (refsL ls).toArray nt)]) (binds := [(Str.ofString "state", .ref D), (Str.ofString "begin", .int b tb), (Str.ofString "many", .int m tm), (Str.ofString "most", optV most ts)]) G hk (List.forall_mem_cons.mpr ⟨⟨hD, hfD⟩, List.forall_mem_singleton.mpr ⟨hT, hfT⟩⟩) ?ho ?hcd ?hr ?hbind ?hkd ?hnd ?_ ?ha ?hb ?hc
  walk_at "np_enterX"
  intro g' L' h' tk0 mean mg mb cells F' N' Y' l1 X' T' G' kG'
  have hEg : LsAt g' ls := W'.base (oD := oD) (oT := oD) kG'
  have hlen2 : ls.length ≤ 100 := by omega
  k_cells Y'
  simp only [List.cons_append, List.nil_append] at N'
  k_lt l1
  have hfl : (ls.filter fun e => decide (lawWay e.2 b m ≠ 0)).isEmpty = true := by
    rw [List.filter_eq_nil_iff.mpr fun e he => by simpa using hno e he]; rfl
  try dsimp only
  k_unmd
  k_fold
  k_steps
  rename Fr _ _ _ _ => kF; rename News _ _ _ _ => kN
  refine Halt.mk ?_
  refine LCt.CompSrcT.ledger rfl kF kN (ax := T) (by k_mem) (by rw [sizeLine_eq]; simp only [refsL, List.size_toArray, List.length_map]; omega) (fun h1 => comp_filterT (α := LEnt) (f := fun e => .ref e.1) (v := fun e => .ref e.1) (l₀ := ls) (fun e => decide (lawWay e.2 b m ≠ 0)) ?turn ?fin)
  case turn =>
    rintro ⟨y, ρ⟩ ys I oI C oC D2 m₂ h tk E' hmem hC hx F' N' off ne
    have hly : LAt g' y ρ := hEg (y, ρ) hmem
    clear kF kN
    k_unmd
    try k_fold
    k_steps
    all_goals (rename Fr _ _ _ _ => kF; rename News _ _ _ _ => kN)
    all_goals first
      | exact Halt.mk (LCg.CompEnd.intro kF kN _ (fun p hp => hp) off (.inr ⟨_, by k_mem, rfl, _, rfl⟩) (Hold.mk ⟨rfl, by simp [*], rfl⟩))
      | exact Halt.mk (LCg.CompEnd.intro kF kN _ (fun p hp => hp) off (.inr ⟨_, by k_mem, rfl, _, rfl⟩) (Hold.mk ⟨rfl, by simp [*]⟩))
  case fin =>
    clear kF kN
    rintro D2 h tk F' N' off
    (refine offTo off ?_; clear off; walk_at "np_lt")
    try dsimp only
    k_unmd
    try k_fold
    k_steps
    rename Fr _ _ _ _ => kF; rename News _ _ _ _ => kN
    refine Halt.mk ?_
    refine LCt.CompSrcT.ledger rfl kF kN (ax := T) (by k_mem) (by rw [sizeLine_eq]; simp only [refsL, List.size_toArray, List.length_map]; omega) (fun h1 => comp_filterT (α := LEnt) (f := fun e => .ref e.1) (v := fun e => .ref e.1) (l₀ := ls) (fun e => hasB e.2 b m) ?turn2 ?fin2)
    case turn2 =>
      rintro ⟨y, ρ⟩ ys I oI C oC D2 m₂ h tk E' hmem hC hx F' N' off ne
      obtain ⟨te, ne', hxe⟩ := hEg (y, ρ) hmem
      dsimp only at hxe
      have hIL : g'.IsList y #[.int ρ.way (te 0), .int ρ.low (te 1), .int ρ.high (te 2), optV ρ.reached (te 3), .int ρ.far (te 4), .int ρ.stamp (te 5)] := ⟨_, hxe, rfl, _, rfl⟩
      clear kF kN
      k_unmd
      try k_fold
      k_steps
      all_goals (rename Fr _ _ _ _ => kF; rename News _ _ _ _ => kN)
      all_goals first
        | exact Halt.mk (LCg.CompEnd.intro kF kN _ (fun p hp => hp) off (.inr ⟨_, by k_mem, rfl, _, rfl⟩) (Hold.mk ⟨rfl, by simp [hasB, *], rfl⟩))
        | exact Halt.mk (LCg.CompEnd.intro kF kN _ (fun p hp => hp) off (.inr ⟨_, by k_mem, rfl, _, rfl⟩) (Hold.mk ⟨rfl, by simp [hasB]; omega⟩))
    case fin2 =>
      clear kF kN
      rintro D3 h tk F' N' off2
      (refine offTo off2 ?_; clear off2; walk_at "np_lt")
      try dsimp only
      k_unmd
      try k_fold
      cases hkn : ls.any fun e => hasB e.2 b m with
      | true =>
        have rk' := rk hkn
        have hfk : (ls.filter fun e => hasB e.2 b m).isEmpty = false := by
          obtain ⟨e, he, hb⟩ := List.any_eq_true.mp hkn
          cases q : ls.filter fun e => hasB e.2 b m with
          | nil => have := List.filter_eq_nil_iff.mp q e he; exact absurd hb this
          | cons a r => rfl
        clear rk ret
        k_steps
        k_unmd
        k_steps
        rename Fr _ _ _ _ => kF; rename News _ _ _ _ => kN
        refine rk' _ _ _ _ _ ?_ ?_ (kN.get (.head _)) (kN.get (by k_mem)) ⟨_, by assumption⟩
        · exact keepBut_news kG' kF kN (List.forall_mem_cons.mpr ⟨hD, List.forall_mem_singleton.mpr hT⟩) (List.forall_mem_cons.mpr ⟨.inl (.head _), List.forall_mem_singleton.mpr (.inr (by k_mem))⟩)
        · exact none_but kG' kN (.head _) (nm2 (by omega) (by omega))
      | false =>
        replace ret := ret hkn
        have hfk : (ls.filter fun e => hasB e.2 b m).isEmpty = true := by
          rw [List.filter_eq_nil_iff.mpr fun e he => by simpa using (List.any_eq_false.mp hkn) e he]; rfl
        clear rk
        k_steps
        k_unmd
        k_steps
        · rename (ls.length : Int) = _ => hfull
          dsimp only at hfull
          rename Fr _ _ _ _ => kF; rename News _ _ _ _ => kN
          refine Halt.mk ?_
          refine LCg.CompSrc.ledger rfl kF kN (ax := T) (by k_mem) (by rw [sizeLine_eq]; simp only [refsL, List.size_toArray, List.length_map]; omega) (fun h1 => comp_mapR (α := LEnt) (f := fun e => .ref e.1) (l₀ := ls) (fun e y => ∃ t, y = Value.int e.2.stamp t) ?turn3 ?fin3)
          case turn3 =>
            rintro ⟨y, ρ⟩ ys I oI C oC D2 m₂ h tk E' hmem hC hx F' N' off ne
            obtain ⟨te, ne', hxe⟩ := hEg (y, ρ) hmem
            dsimp only at hxe
            have hIL : g'.IsList y #[.int ρ.way (te 0), .int ρ.low (te 1), .int ρ.high (te 2), optV ρ.reached (te 3), .int ρ.far (te 4), .int ρ.stamp (te 5)] := ⟨_, hxe, rfl, _, rfl⟩
            clear kF kN
            k_unmd
            try k_fold
            k_steps
            all_goals (rename Fr _ _ _ _ => kF; rename News _ _ _ _ => kN)
            exact Halt.mk (LCg.CompEnd.intro kF kN _ (fun p hp => hp) off (.inr ⟨_, by k_mem, rfl, _, rfl⟩) (Hold.mk ⟨rfl, _, rfl⟩))
          case fin3 =>
            clear kF kN
            rintro ys hys D4 h tk F' N' off4
            have hI3 := ints_of_all2 hys
            have hyl : ys.length = ls.length := hys.len
            (refine offTo off4 ?_; clear off4; walk_at "np_lt")
            try dsimp only
            k_unmd
            try k_fold
            k_steps
            rename Fr _ _ _ _ => kF; rename News _ _ _ _ => kN
            rename Int => M
            rename (M ∈ List.map _ ls) => hMm
            rename (∀ a, a ∈ List.map _ ls → _ ≤ a) => hMl
            refine Halt.mk ?_
            refine LCt.CompSrcT.ledger rfl kF kN (ax := T) (by k_mem) (by rw [sizeLine_eq]; simp only [refsL, List.size_toArray, List.length_map]; omega) (fun h1 => comp_filterT (α := LEnt) (f := fun e => .ref e.1) (v := fun e => .ref e.1) (l₀ := ls) (fun e => decide (e.2.stamp = M)) ?turn4 ?fin4)
            case turn4 =>
              rintro ⟨y, ρ⟩ ys I oI C oC D2 m₂ h tk E' hmem hC hx F' N' off ne
              obtain ⟨te, ne', hxe⟩ := hEg (y, ρ) hmem
              dsimp only at hxe
              have hIL : g'.IsList y #[.int ρ.way (te 0), .int ρ.low (te 1), .int ρ.high (te 2), optV ρ.reached (te 3), .int ρ.far (te 4), .int ρ.stamp (te 5)] := ⟨_, hxe, rfl, _, rfl⟩
              clear kF kN
              k_unmd
              try k_fold
              k_steps
              all_goals (rename Fr _ _ _ _ => kF; rename News _ _ _ _ => kN)
              all_goals first
                | exact Halt.mk (LCg.CompEnd.intro kF kN _ (fun p hp => hp) off (.inr ⟨_, by k_mem, rfl, _, rfl⟩) (Hold.mk ⟨rfl, by simp [*], rfl⟩))
                | exact Halt.mk (LCg.CompEnd.intro kF kN _ (fun p hp => hp) off (.inr ⟨_, by k_mem, rfl, _, rfl⟩) (Hold.mk ⟨rfl, by simp [*]⟩))
            case fin4 =>
              clear kF kN
              rintro D5 h tk F' N' off5
              (refine offTo off5 ?_; clear off5; walk_at "np_lt")
              try dsimp only
              k_unmd
              try k_fold
              k_steps
              rename Fr _ _ _ _ => cF; rename News _ _ _ _ => cN
              obtain ⟨pre, ⟨x, σ⟩, post, hls, hst, hpr⟩ := first_split hMm
              have hflt : (ls.filter fun e => decide (e.2.stamp = M)) = (x, σ) :: post.filter fun e => decide (e.2.stamp = M) := by
                rw [hls, List.filter_append, List.filter_eq_nil_iff.mpr fun a ha => by simpa using hpr a ha, List.filter_cons_of_pos (by simpa using hst), List.nil_append]
              refine Halt.mk ?_
              refine' item_L (ls := ls.filter fun e => decide (e.2.stamp = M)) ?N ?m ?a ?b ?f ?_
              case N => exact cN
              case m => k_mem
              case a => decide
              case b => rw [hflt]; simp
              case f => have := List.length_filter_le (fun e : LEnt => decide (e.2.stamp = M)) ls; omega
              intro e he
              rw [hflt] at he
              obtain rfl : (x, σ) = e := by simpa using he
              clear he hflt
              try dsimp only
              k_steps
              subst hls
              have hst' : σ.stamp = M := hst
              have hpp : (pre ++ post).length ≤ 100 := by simp only [List.length_append, List.length_cons] at hlen ⊢; omega
              refine' remove_law (pre := pre) (post := post) (σ := σ) (n := nt) hEg hnd ?hp cF cN ?hu ?hz ?U ?_
              case hp => exact fun a ha => by rw [hst']; exact hpr a ha
              case hu => simp only [units_deeper]; omega
              case hz => exact hlen2
              case U => k_upd
              clear cF cN
              intro h5 F5 N5
              try dsimp only
              k_steps
              rename Fr _ _ _ _ => kF; rename News _ _ _ _ => kN
              refine ret _ _ _ _ _ (pre ++ post) _ _ ?_ ?_ (kN.get (.head _)) (kN.get (by k_mem)) ⟨_, by assumption⟩ ?_ (get_snocL kN (by k_mem)) (LAt.mkN (kN.get (.tail _ (.head _)))) (List.Sublist.append_left (List.sublist_cons_self _ _) _) ?_
              · exact keepBut_news kG' kF kN (List.forall_mem_cons.mpr ⟨hD, List.forall_mem_singleton.mpr hT⟩) (List.forall_mem_cons.mpr ⟨.inl (.head _), List.forall_mem_singleton.mpr (.inl (.tail _ (.head _)))⟩)
              · exact none_but kG' kN (.head _) (nm2 (by omega) (by omega))
              · exact none_but kG' kN (.tail _ (.head _)) (nm2 (by omega) (by omega))
              · rw [if_pos hfull, List.map_append, List.map_append, List.map_cons, dropStale_split]
                · intro τ hτ
                  obtain ⟨a, ha, rfl⟩ := List.mem_map.mp hτ
                  have h1 := hMl a.2.stamp (List.mem_map_of_mem (f := fun e : LEnt => e.2.stamp) (List.mem_append_left _ ha))
                  have h2 := hpr a ha
                  show σ.stamp < a.2.stamp
                  omega
                · intro τ hτ
                  obtain ⟨a, ha, rfl⟩ := List.mem_map.mp hτ
                  have h1 := hMl a.2.stamp (List.mem_map_of_mem (f := fun e : LEnt => e.2.stamp) (List.mem_append_right _ (.tail _ ha)))
                  show σ.stamp ≤ a.2.stamp
                  omega
        · rename ¬ (ls.length : Int) = _ => hfull
          dsimp only at hfull
          rename Fr _ _ _ _ => kF; rename News _ _ _ _ => kN
          refine ret _ _ _ _ _ ls _ _ ?_ ?_ (kN.get (.head _)) (kN.get (by k_mem)) ⟨_, by assumption⟩ ?_ (get_snocL kN (by k_mem)) (LAt.mkN (kN.get (.tail _ (.head _)))) (List.Sublist.refl _) (if_neg hfull).symm
          · exact keepBut_news kG' kF kN (List.forall_mem_cons.mpr ⟨hD, List.forall_mem_singleton.mpr hT⟩) (List.forall_mem_cons.mpr ⟨.inl (.head _), List.forall_mem_singleton.mpr (.inl (.tail _ (.head _)))⟩)
          · exact none_but kG' kN (.head _) (nm2 (by omega) (by omega))
          · exact none_but kG' kN (.tail _ (.head _)) (nm2 (by omega) (by omega))
end
end

section
theorem offNpU : True := by w_top off; trivial
theorem wNpU0 : True := by
  k_with_none
  (k_with "np_omega" => (first
      | (with_reducible assumption)
      | omega -splitDisjunctions
      | ((with_reducible show @Ne Nat _ _); with_reducible refine Ne.symm ?_; with_reducible assumption)
      | (refine Nat.le_antisymm ?_ ?_ <;> omega -splitDisjunctions)
      | (refine Int.le_antisymm ?_ ?_ <;> omega -splitDisjunctions)
      | omega +splitDisjunctions))
  (k_with "np_mm" => (first
      | (simp (disch := (first | assumption | exact Int.le_of_lt (by assumption) | exact Int.not_lt.mp (by assumption) | omega)) only [Int.max_eq_right, Int.max_eq_left, Int.min_eq_right, Int.min_eq_left]; done)
      | omega))
  (k_with "np_lt" => (k_dflt (repeat (intro _)); k_dflt (refine Got.mk ?_)))
  (k_with "np_ne" => (first
      | (with_reducible refine Nat.ne_of_lt ?_; with_reducible assumption)
      | (with_reducible refine Nat.ne_of_gt ?_; with_reducible assumption)
      | (with_reducible assumption)
      | (with_reducible refine Ne.symm ?_; with_reducible assumption)
      | (refine neN ?_; (try dsimp only); omega)))
  (k_with "np_mem" => (first
      | ((repeat' (with_reducible first | exact List.Mem.head _ | refine List.Mem.tail _ ?_)); done)
      | (with_reducible assumption)
      | assumption))
  (k_with "ite" => (k_closed; k_dflt (first | refine ite_pos (by decide) ?_ | refine ite_neg (by decide) ?_)))
  (k_with "ite" => (k_openite; (fail_if_success (with_reducible show @ite _ ((_ == (0 : Int) - _) = true) _ _ _)); (first | (with_reducible refine ite_pos ?c_q ?_; (case c_q => with_reducible assumption)) | (with_reducible refine ite_neg ?c_q ?_; (case c_q => with_reducible assumption)) | (with_reducible refine ite_isFalse ?c_q ?_; (case c_q => with_reducible assumption)) | (with_reducible refine split_ine ?_ ?_ <;> intro _) | (with_reducible refine split_ieq ?_ ?_ <;> intro _) | (with_reducible refine split_dec ?_ ?_ <;> intro _))))
  (k_with "callWith ref" => (k_here; k_dflt (first | (refine' callWith_K ?k1_q ?k2_q ?_; (case k1_q => k_asm); (case k2_q => k_is); k_whole) | (refine' callWith_K0 ?k1_q ?k2_q ?_; (case k1_q => exact Frag.In.keeps (by k_asm) (Fr.keep (by k_asm))); (case k2_q => k_is); k_whole))))
  (k_with "CompEnd" => (with_reducible refine haltIt ?_))
  (k_with "CompSrc" => (with_reducible refine haltIt ?_))
  (k_with "CompSrcT" => (with_reducible refine haltIt ?_))
  (k_with "np_inst" => (first
      | (refine' InstAt.of_base ?F_q ?h1_q ?h2_q; (case F_q => k_asm); (case h1_q => k_asm); (case h2_q => k_asm))
      | (refine' InstAt.of_mixed ?F_q ?h1_q ?N_q ?h2_q; (case F_q => k_asm); (case h1_q => k_asm); (case N_q => k_asm); (case h2_q => k_mem))))
  (k_with "np_let" => ((try ((with_reducible rename News _ _ _ _ => cN'q); (fail_if_success (have := lacksIt cN'q (by goal_lacks List.cons; exact fun _ => trivial))); refine news_let cN'q ?_; clear cN'q; intro _ cN'q)); (try ((with_reducible rename Fr _ _ _ _ => cF'q); (fail_if_success (have := lacksIt cF'q (by goal_lacks Option.some; exact fun _ => trivial))); refine fr_let cF'q ?_; clear cF'q; intro _ cF'q))))
  (k_with "getItem ref str" => (k_here; (with_reducible show wpAny _ _ (getItem (Value.ref _) (Value.str _ _)) _ _ _); k_dflt (refine kdt_getItem (knd := PySem.strKind _ _) (by k_asm) (by k_mem) (by k_asm) (strKind_is _ _ _ _) (by rfl) ?_)))
  (k_with "execs cons" => (k_here; (try (with_reducible refine gentok ?_; intro _)); walk_at "np_let"; (with_reducible refine wpAny_execs_cons ?_); (try dsimp only); (try k_fold)))
  (k_with "execs nil" => (k_here; with_reducible refine gentok ?_; intro _))
  (k_with "subscriptTail Name Constant ref int" => (k_here; (with_reducible show wpAny _ _ (subscriptTail _ _ (Value.ref _) (Value.int _ _)) _ _ _); k_dflt (refine' item_gl ?F_q ?I_q ?a_q ?b_q ?x_q ?_ ?hs_q; (case F_q => k_asm); (case I_q => with_reducible assumption); (case a_q => decide); (case b_q => decide); (case x_q => rfl); (case hs_q => with_unfolding_all rfl); k_whole)))
  (k_with "np_handed" => (exact handed_opt _ _))
  (k_with "np_enter" => (case ho => k_dflt k_is); (case hcd => k_dflt k_is); (try (case hr => (first | omega | (dsimp only; omega)))); (case hbind => first | exact BindsTo.of_eq rfl | (refine' binds_K ?bx_q ?b1_q ?b2_q ?b3_q ?b4_q ?b5_q; (case bx_q => assumption); (case b1_q => exact rfl); (case b2_q => k_dflt k_is); (case b3_q => exact rfl); (case b4_q => exact rfl); (case b5_q => exact rfl))); (case hloc => exact locs rfl); (case ha => exact rfl); (case hb => exact rfl); (case hc => exact rfl); (case hd => decide))
  (k_with "np_enterX" => (case ho => k_dflt k_is); (case hcd => k_dflt k_is); (try (case hr => (first | omega | (dsimp only; omega)))); (case hbind => first | exact BindsTo.of_eq rfl | (refine' binds_K ?bx_q ?b1_q ?b2_q ?b3_q ?b4_q ?b5_q; (case bx_q => assumption); (case b1_q => exact rfl); (case b2_q => k_dflt k_is); (case b3_q => exact rfl); (case b4_q => exact rfl); (case b5_q => exact rfl))); (case hkd => exact rfl); (case hnd => decide +kernel); (case ha => exact rfl); (case hb => exact rfl); (case hc => exact rfl))
  trivial
theorem wNpU1 : True := by
  (k_with "pyIter ref" => (with_reducible refine haltIt ?_))
  trivial
theorem News.drop1 {g h : Heap} {L : Addr} {p : Addr × Obj} {n : List (Addr × Obj)} (N : News g L h (p :: n)) : News g L h n := fun q hq => N q (.tail _ hq)
theorem News.drop2 {g h : Heap} {L : Addr} {p q : Addr × Obj} {n : List (Addr × Obj)} (N : News g L h (p :: q :: n)) : News g L h (p :: n) := fun r hr => by
  rcases List.mem_cons.mp hr with rfl | hr
  · exact N _ (.head _)
  · exact N r (.tail _ (.tail _ hr))
theorem LAt.ofNews {g h : Heap} {L a : Addr} {n : Nat} {t : Nat → Tok} {σ : St} {news : List (Addr × Obj)} (N : News g L h news) (hm : (a, listOf (lVs t σ).toArray n) ∈ news) : LAt h a σ := ⟨t, n, N.get hm⟩
theorem wNpU2 : True := by
  (k_with "subscriptTail Name Constant ref str" => (k_here; (with_reducible show wpAny _ _ (subscriptTail _ _ (Value.ref _) (Value.str _ _)) _ _ _); k_dflt (refine kda_item (knd := PySem.strKind _ _) (by k_asm) (by k_mem) (by k_asm) (strKind_is _ _ _ _) (by rfl) ?_)))
  (k_with "setItem ref str" => (k_here; k_dflt (refine' kda_set (knd := PySem.strKind _ _) ?F_q ?N_q ?U_q ?d_q (strKind_is _ _ _ _) ?z_q ?_; (case F_q => k_asm); (case N_q => k_asm); (case U_q => k_updF); (case d_q => k_asm); (case z_q => rw [sizeLine_eq]; exact Nat.le_of_ble_eq_true (by with_unfolding_all rfl))); intro _ _ _ N'q hd'q; (try simp only [stored_streams, stored_stamp, stored_hits, stored_misses, stored_asked] at hd'q); (try dsimp only at N'q)))
  (k_with "eval ListComp" => (k_here; first | (lct_look; k_dflt (refine LCt.ListComp_T (F₀ := by k_asm) (by with_unfolding_all rfl) (by decide) (by rfl) (by decide) (by rfl) ?_)) | ((with_reducible show wpAny _ _ (eval (Expr.ListComp _ [Comprehension.mk _ _ [] _] _ _) _) _ _ _); k_dflt (refine LCg.ListComp_U (F₀ := by k_asm) (by with_unfolding_all rfl) (by decide) (by rfl) (by decide) (by rfl) ?_))))
  (k_with "exec Assign cons ListComp" => (k_here; first | (lct_look; k_dflt (refine LCt.Assign_ListComp_T (F₀ := by k_asm) (by rfl) (by with_unfolding_all rfl) (by with_unfolding_all rfl) (by decide) (by rfl) (by decide) (by rfl) (by rfl) (by rfl) ?_)) | (k_dflt (refine LCg.Assign_ListComp_U (F₀ := by k_asm) (by rfl) (by with_unfolding_all rfl) (by with_unfolding_all rfl) (by decide) (by rfl) (by decide) (by rfl) (by rfl) (by rfl) ?_))))
  (k_with "call builtin:len" => (k_here; (with_reducible show wpAny _ _ (call (Value.builtin "len") [Value.ref _]) _ _ _); (refine' len_L ?N_q ?m_q ?f_q ?_; (case N_q => k_asm); (case m_q => k_mem); (case f_q => with_reducible assumption))))
  (k_with "call ref" => (k_here; (with_reducible show wpAny _ _ (call (Value.ref 191) _) _ _ _); (with_reducible rename Fr _ _ _ _ => cF'q); (with_reducible rename News _ _ _ _ => cN'q); refine' law_way_spec ?G_q ?k_q ?a_q ?d_q ?x_q ?_; (case G_q => k_asm); (case k_q => exact Fr.keep cF'q); (case a_q => exact rfl); (case d_q => (simp only [depth_under_make, depth_in1, depth_deeper]; omega)); (case x_q => first | exact LAt.up (by assumption) (Fr.keep cF'q) | exact LAt.ofNews cN'q (by k_mem)); k_whole; intro _ _ _ U'q; (have F'q := Fr.keeps cF'q U'q); (have N'q := News.grown cN'q U'q); (clear cF'q cN'q U'q); (try dsimp only)))
  (k_with "subscriptTail" => (k_here; (with_reducible show wpAny _ _ (subscriptTail _ _ (Value.ref _) (Value.int _ _)) _ _ _); k_dflt (refine' item_lv ?N_q ?m_q ?a_q ?b_q ?x_q ?_ ?hs_q; (case N_q => k_asm); (case m_q => k_mem); (case a_q => decide); (case b_q => decide); (case x_q => rfl); (case hs_q => with_unfolding_all rfl); k_whole)))
  (k_with "setItem ref int" => (k_here; (with_reducible show wpAny _ _ (setItem (Value.ref _) (Value.int _ _) _) _ _ _); k_dflt (refine' ki_set ?F_q ?N_q ?a_q ?b_q ?e_q ?U_q ?_; (case F_q => k_asm); (case N_q => k_asm); (case U_q => k_upd); (case a_q => decide); (case b_q => decide); (case e_q => rfl)); intro _ _ N'q; (try dsimp only [List.nil_append, List.cons_append] at N'q)))
  (k_with "np_to" => (repeat' (first | (k_unfold; (try dsimp only)) | (k_end; wrow_close) | ((fail_if_success (with_reducible show wpAny _ _ (eval (Expr.IfExp _ _ _ _) _) _ _ _)); walk1) | ((fail_if_success (with_reducible show wpAny _ _ (eval (Expr.IfExp _ _ _ _) _) _ _ _)); dsimp only; walk1) | (leave1; walk_say "STEP leave1"; try dsimp only))))
  (k_with "np_toS" => (repeat' (first | (k_unfold; (try dsimp only)) | (k_end; wrow_close) | ((fail_if_success (with_reducible show wpAny _ _ (compareOp CmpOp.Eq (Value.ref _) (Value.ref _)) _ _ _)); (fail_if_success (with_reducible show wpAny _ _ (subscriptTail _ _ (Value.ref _) (Value.int _ _)) _ _ _)); walk1) | ((fail_if_success (with_reducible show wpAny _ _ (compareOp CmpOp.Eq (Value.ref _) (Value.ref _)) _ _ _)); (fail_if_success (with_reducible show wpAny _ _ (subscriptTail _ _ (Value.ref _) (Value.int _ _)) _ _ _)); dsimp only; walk1) | (leave1; walk_say "STEP leave1"; try dsimp only))))
  (k_with "compareOp Eq ref ref" => (k_here; (with_reducible show wpAny _ _ (compareOp CmpOp.Eq (Value.ref _) (Value.ref _)) _ _ _); k_dflt (refine' eq_nil_B ?b_q ?T_q ?l_q ?n_q ?u_q ?_; (case T_q => exact News.get (by k_asm) (by k_mem)); (case b_q => assumption); (case l_q => exact LsAt.up (LsAt.filt (by assumption)) (Fr.keep (by k_asm))); (case n_q => exact News.get (by k_asm) (by k_mem)); (case u_q => (simp only [units_deeper, units_in1]; omega)))))
  trivial
section
variable {w : World} {A : Around} {s : Shared} {h₀ : Heap} {Q E : Value → Shared → Prop} {x d : Addr} {σ : St}
theorem wNpU3 : True := by
  (k_with "exec For Name Subscript cons nil" => (k_here; (rename Fr _ _ _ _ => lF'q); (with_unfolding_all refine' For_invVF lF'q ?k1_q ?k2_q ?_; (case k1_q => exact rfl); (case k2_q => exact rfl); k_whole)))
  trivial
theorem lawBs_length {w E0 R0 F0 : Int} {most : Option Int} : (lawBs w E0 R0 F0 most).length ≤ F0.toNat := by
  unfold lawBs
  refine Nat.le_trans (List.length_filter_le _ _) (Nat.le_trans (List.length_filter_le _ _) ?_)
  simp
theorem news_split {g h : Heap} {L a : Addr} {o : Obj} {n : List (Addr × Obj)} (N : News g L h ((a, o) :: n)) : ∃ a' tl, a' = a ∧ tl = n ∧ News g L h ((a', o) :: tl) := ⟨_, _, rfl, rfl, N⟩
structure Blk (ys : List Value) (is : List Int) : Prop where
  i : IntsAre ys is
  n : ys.length ≤ 1000
theorem eq_nil_I {prog : Program} {w : World} {A : Around} {s : Shared} {Q E : Value → Shared → Prop} {T l : Addr} {ys : List Value} {is : List Int} {n k : Nat} {bb : Bool} (B : Blk ys is) (hb : is.isEmpty = bb) (hT : s.heap.get? T = some (listOf ys.toArray n)) (h0 : s.heap.get? l = some (listOf #[] k)) (hu : A.units + 64 < cLine)
    (h : Q (.bool bb) s) : wpAny (model prog w) A (compareOp .Eq (.ref T) (.ref l)) Q E s := by
  obtain ⟨as, r1⟩ := reads_intList hT B.i
  have r2 : Reads s.heap (.ref l) (.list []) [l] := .list h0 rfl rfl .nil
  refine eq_dataH r1 r2 ((goodInts is).shaped (by omega)) rfl hu ?_
  cases is with
  | nil => cases hb; exact h
  | cons a r => cases hb; exact h
theorem ints_last {ys : List Value} {is : List Int} (hi : IntsAre ys is) : is ≠ [] → ∃ t, ys[ys.length - 1]? = some (Value.int (is.getLastD 0) t) := by
  induction hi with
  | nil => exact fun h => absurd rfl h
  | cons a t h ih =>
    rename_i vs is
    intro _
    cases h with
    | nil => exact ⟨t, rfl⟩
    | cons a2 t2 h2 =>
      obtain ⟨u, hu⟩ := ih (by simp)
      refine ⟨u, ?_⟩
      simpa using hu
theorem item_last {prog : Program} {w : World} {A : Around} {s : Shared} {Q E : Value → Shared → Prop} {value slice : PySem.Expr} {g : Heap} {L l : Addr} {news : List (Addr × Obj)} {ys : List Value} {is : List Int} {n : Nat} {u : Tok} (B : Blk ys is) (hne : is.isEmpty = false) (N : News g L s.heap news) (hm : (l, listOf ys.toArray n) ∈ news)
    (h : ∀ t, Q (.int (is.getLastD 0) t) s) (hs : subscripted slice false (.ref l) (.int (-1) u) = operate [.ref l, .int (-1) u] (getItem (.ref l) (.int (-1) u)) := by with_unfolding_all rfl) :
    wpAny (model prog w) A (subscriptTail value slice (.ref l) (.int (-1) u)) Q E s := by
  have hL : s.heap.IsList l ys.toArray := News.isList N hm
  have hne' : is ≠ [] := by rintro rfl; cases hne
  obtain ⟨t, ht⟩ := ints_last B.i hne'
  have hlen := IntsAre.length B.i
  have : 0 < is.length := List.length_pos_iff.mpr hne'
  have e1 : ((-1 : Int) + ys.toArray.size).toNat = ys.length - 1 := by simp only [List.size_toArray]; omega
  exact tail_any hL.typeIs slot_list_getitem.lookup (wpAny_getItem_list_neg hL (by decide) (by simp only [List.size_toArray]; omega) (by decide) (by rw [e1]; simpa using ht) (h t)) hs
theorem hold_out {p : Prop} (h : Hold p) : p := h
theorem wNpU4 : True := by
  (k_with "UnrPost" => ((with_reducible show UnrPost _ _ _ _ _ _ _ _ _); refine hold_out ?_))
  trivial
section
variable {w E st : Int} {ρ : St}
theorem keepA (h : ρ.stamp = st) : lawKeep w E st ρ = true := by unfold lawKeep; rw [decide_eq_true h]; rfl
theorem keepB (h : ρ.way = 0 - w) : lawKeep w E st ρ = true := by unfold lawKeep; rw [decide_eq_true h, Bool.or_true]; rfl
theorem keepC1 (hw : w = 1) (h : ρ.high ≠ E) : lawKeep w E st ρ = true := by unfold lawKeep; rw [if_pos hw, decide_eq_false h]; simp
theorem keepC2 (hw : w ≠ 1) (h : ρ.low ≠ E) : lawKeep w E st ρ = true := by unfold lawKeep; rw [if_neg hw, decide_eq_false h]; simp
theorem keepN1 (hw : w = 1) (h1 : ρ.stamp ≠ st) (h2 : ρ.way ≠ 0 - w) (h : ρ.high = E) : lawKeep w E st ρ = false := by unfold lawKeep; rw [if_pos hw, decide_eq_false h1, decide_eq_false h2, decide_eq_true h]; rfl
theorem keepN2 (hw : w ≠ 1) (h1 : ρ.stamp ≠ st) (h2 : ρ.way ≠ 0 - w) (h : ρ.low = E) : lawKeep w E st ρ = false := by unfold lawKeep; rw [if_neg hw, decide_eq_false h1, decide_eq_false h2, decide_eq_true h]; rfl
end
theorem wNpU5 : True := by
  (k_with "subscriptTail Name Constant ref int" => (k_here; (with_reducible show wpAny _ _ (subscriptTail _ _ (Value.ref _) (Value.int _ _)) _ _ _); k_dflt (refine' item_lv ?N_q ?m_q ?a_q ?b_q ?x_q ?_ ?hs_q; (case N_q => k_asm); (case m_q => k_mem); (case a_q => decide); (case b_q => decide); (case x_q => rfl); (case hs_q => with_unfolding_all rfl); k_whole)))
  (k_with "subscriptTail Name Constant ref int" => (k_here; (with_reducible show wpAny _ _ (subscriptTail _ _ (Value.ref _) (Value.int _ _)) _ _ _); k_dflt (refine' item_gl ?F_q ?I_q ?a_q ?b_q ?x_q ?_ ?hs_q; (case F_q => k_asm); (case I_q => with_reducible assumption); (case a_q => decide); (case b_q => decide); (case x_q => rfl); (case hs_q => with_unfolding_all rfl); k_whole)))
  trivial
theorem len_I {prog : Program} {w : World} {A : Around} {s : Shared} {Q E : Value → Shared → Prop} {g : Heap} {L D : Addr} {news : List (Addr × Obj)} {ys : List Value} {is : List Int} {n : Nat} (B : Blk ys is) (N : News g L s.heap news) (hm : (D, listOf ys.toArray n) ∈ news) (h : Q (.int (is.length : Nat) (s.toks + 1)) { s with toks := s.toks + 1 + 1 }) :
    wpAny (model prog w) A (call (.builtin "len") [.ref D]) Q E s :=
  KM.len_K N hm (by have := IntsAre.length B.i; simpa using this) (by have := IntsAre.length B.i; have := B.n; omega) h
theorem append_L {prog : Program} {w : World} {A : Around} {s : Shared} {Q E : Value → Shared → Prop} {g : Heap} {L D y : Addr} {m : Str → Option Value} {news news' : List (Addr × Obj)} {es : List Value} {n : Nat} (F : Fr g L s.heap m) (N : News g L s.heap news) (hsz : es.length ≤ 100) (U : Upd D (listOf es.toArray n) (listOf (es ++ [Value.ref y]).toArray (n + 1)) news news')
    (h : ∀ h', Fr g L h' m → News g L h' news' → Q .none { s with heap := h' }) : wpAny (model prog w) A (call (.builtin "list.append") [.ref D, .ref y]) Q E s :=
  append_K (its := es.toArray) F N (by simpa using U) h (by rw [sizeLine_eq]; simp only [List.size_toArray]; omega)
theorem LAt.mkS {h : Heap} {a : Addr} {n : Nat} {t0 t1 t2 t3 t4 t5 : Tok} {w l hi f st r : Int} (e : h.get? a = some (listOf #[.int w t0, .int l t1, .int hi t2, .int r t3, .int f t4, .int st t5] n)) : LAt h a ⟨w, l, hi, some r, f, st⟩ :=
  ⟨fun i => match i with | 0 => t0 | 1 => t1 | 2 => t2 | 3 => t3 | 4 => t4 | _ => t5, n, e⟩
theorem wNpU6 : True := by
  (k_with "call builtin:list.append" => (k_here; (with_reducible show wpAny _ _ (call (Value.builtin _) [Value.ref _, Value.ref _]) _ _ _); k_dflt (refine' append_L ?k1_q ?k2_q ?z_q ?k3_q ?_; (case z_q => assumption); (case k1_q => k_asm); (case k2_q => k_asm); (case k3_q => k_upd); k_whole); intro _ _ N'q; (try dsimp only at N'q)))
  (k_with "call builtin:len" => (k_here; (with_reducible show wpAny _ _ (call (Value.builtin "len") [Value.ref _]) _ _ _); (with_reducible rename Blk _ _ => bkEq); (refine' len_I bkEq ?N_q ?m_q ?_; (case N_q => k_asm); (case m_q => k_mem))))
  (k_with "compareOp Eq ref ref" => (k_here; (with_reducible show wpAny _ _ (compareOp CmpOp.Eq (Value.ref _) (Value.ref _)) _ _ _); (with_reducible rename Blk _ _ => bkEq); k_dflt (refine' eq_nil_I bkEq ?b_q ?T_q ?n_q ?u_q ?_; (case T_q => exact News.get (by k_asm) (by k_mem)); (case b_q => assumption); (case n_q => exact News.get (by k_asm) (by k_mem)); (case u_q => (simp only [units_deeper, units_in1]; omega)))))
  (k_with "subscriptTail Name UnaryOp ref int" => (k_here; (with_reducible rename Blk _ _ => bkEq); (show wpAny _ _ (subscriptTail _ _ (Value.ref _) (Value.int (-1) _)) _ _ _); k_dflt (refine' item_last bkEq ?b_q ?N_q ?m_q ?_ ?hs_q; (case N_q => k_asm); (case b_q => assumption); (case m_q => k_mem); (case hs_q => with_unfolding_all rfl); k_whole); intro _))
  trivial
set_option maxHeartbeats 40000000 in
theorem law_access_some {D T x : Addr} {σ : St} {S : Sc} {pre post : List LEnt} {nt : Nat} {b m : Int} {most : Option Int} {tb tm ts : Tok} (G : Gr w h₀) (hk : Up h₀ s.heap) (hA : A.handled = none) (hd : A.depth + 8 < recursionLimit) (hu : A.units + 200 < cLine)
    (W : LW w s.heap D T S (pre ++ (x, σ) :: post) nt) (hlen : (pre ++ (x, σ) :: post).length ≤ 50) (hfD : h₀.get? D = none) (hfT : h₀.get? T = none) (hfx : h₀.get? x = none)
    (hno : ∀ e ∈ pre, lawWay e.2 b m = 0) (hyes : lawWay σ b m ≠ 0) (hg : σ.way ≠ 0 → σ.reached ≠ none) (hz : Small σ) (hgr : 0 ≤ S.greatest ∧ S.greatest ≤ 1000)
    (ret : ∀ h' tk c k o T' kT ys BS σ', BS = lawBs (lawWay σ b m) (edgeOf (lawWay σ b m) b m) (reachOf σ (lawWay σ b m) (edgeOf (lawWay σ b m) b m)) (farOf S σ) most →
      σ' = ⟨lawWay σ b m, b, b + m, some (lastOf (lawWay σ b m) (reachOf σ (lawWay σ b m) (edgeOf (lawWay σ b m) b m)) BS), farOf S σ, S.stamp + 1⟩ →
      KeepBut [D, x] s.heap h' → s.heap.get? c = none → h'.get? c = some (listOf ys.toArray k) → IntsAre ys BS → h'.get? D = some o → DIs w o { S with stamp := S.stamp + 1, hits := S.hits + 1, asked := S.asked + (BS.length : Nat) } T' →
      s.heap.get? T' = none → h'.get? T' = some (listOf (refsL ((pre ++ (x, σ') :: post).filter fun e => lawKeep (lawWay σ b m) (edgeOf (lawWay σ b m) b m) (S.stamp + 1) e.2)).toArray kT) → LAt h' x σ' → Q (.ref c) {s with heap := h', toks := tk}) :
    wpAny (model Pg w) A (call (.ref 196) [.ref D, .int b tb, .int m tm, optV most ts]) Q E s := by
  obtain ⟨ah, ad, af, ag, au⟩ := A
  obtain rfl : ah = none := hA
  dsimp only at hd hu
  obtain ⟨⟨oD, hD, hoD⟩, hT, hE, hnd, hne⟩ := W
  have hDT : @Ne Nat D T := ne_of_cls hD hT (by rw [hoD.cls]; simp)
  have hcD := hoD.cls
  obtain ⟨t, hoD⟩ := hoD
  obtain ⟨tx, nx, hxs⟩ := hE (x, σ) (by simp)
  dsimp only at hxs
  have hDx : @Ne Nat D x := ne_of_cls hD hxs (by rw [hcD]; simp)
  have hTx : @Ne Nat T x := fun e => hne (x, σ) (by simp) e.symm
  refine' enterX (D := [(D, oD), (x, listOf (lVs tx σ).toArray nx), (T, listOf (refsL (pre ++ (x, σ) :: post)).toArray nt)]) (binds := [(Str.ofString "state", .ref D), (Str.ofString "begin", .int b tb), (Str.ofString "many", .int m tm), (Str.ofString "most", optV most ts)]) G hk (List.forall_mem_cons.mpr ⟨⟨hD, hfD⟩, List.forall_mem_cons.mpr ⟨⟨hxs, hfx⟩, List.forall_mem_singleton.mpr ⟨hT, hfT⟩⟩⟩) ?ho ?hcd ?hr ?hbind ?hkd ?hnd ?_ ?ha ?hb ?hc
  walk_at "np_enterX"
  intro g' L' h' tk0 mean mg mb cells F' N' Y' l1 X' T' G' kG'
  have hEg : ∀ e ∈ pre ++ (x, σ) :: post, e.1 ≠ x → LAt g' e.1 e.2 := fun e he hex => by
    obtain ⟨t, n, a⟩ := hE e he
    refine ⟨t, n, kG' _ _ a ?_⟩
    simp only [List.map_cons, List.map_nil, List.mem_cons, List.not_mem_nil, or_false]
    rintro (h | h | h)
    · exact ne_of_cls a hD (by rw [hcD]; simp) h
    · exact hex h
    · exact hne e he h
  have hx1 : ∀ e ∈ pre ++ (x, σ) :: post, e.1 = x → e = (x, σ) := fun e he hex => by
    rw [List.map_append, List.map_cons, List.nodup_append] at hnd
    rcases List.mem_append.mp he with h | h
    · exact absurd hex (hnd.2.2 _ (List.mem_map_of_mem h) _ (.head _))
    · rcases List.mem_cons.mp h with h | h
      · exact h
      · have := (List.nodup_cons.mp hnd.2.1).1
        rw [show (x, σ).1 = x from rfl, ← hex] at this
        exact absurd (List.mem_map_of_mem (f := fun e : LEnt => e.1) h) this
  have hLs : ∀ (h2 : Heap) (m2 : Str → Option Value), Fr g' L' h2 m2 → LAt h2 x σ → LsAt h2 (pre ++ (x, σ) :: post) := fun h2 m2 F2 hx2 e he => by
    by_cases hex : e.1 = x
    · rw [hx1 e he hex]; exact hx2
    · exact (hEg e he hex).up F2.keep
  have hlen2 : (pre ++ (x, σ) :: post).length ≤ 100 := by omega
  have hflt : ((pre ++ (x, σ) :: post).filter fun e => decide (lawWay e.2 b m ≠ 0)) = (x, σ) :: post.filter fun e => decide (lawWay e.2 b m ≠ 0) := by
    rw [List.filter_append, List.filter_eq_nil_iff.mpr fun a ha => by simpa using hno a ha, List.filter_cons_of_pos (by simpa using hyes), List.nil_append]
  have hfl : ((pre ++ (x, σ) :: post).filter fun e => decide (lawWay e.2 b m ≠ 0)).isEmpty = false := by rw [hflt]; rfl
  k_cells Y'
  simp only [List.cons_append, List.nil_append] at N'
  k_lt l1
  try dsimp only
  k_unmd
  k_fold
  k_steps
  rename Fr _ _ _ _ => kF; rename News _ _ _ _ => kN
  refine Halt.mk ?_
  refine LCt.CompSrcT.ledger rfl kF kN (ax := T) (by k_mem) (by rw [sizeLine_eq]; simp only [List.size_toArray, List.length_map]; omega) (fun h1 => comp_filterT (α := LEnt) (f := fun e => .ref e.1) (v := fun e => .ref e.1) (l₀ := pre ++ (x, σ) :: post) (fun e => decide (lawWay e.2 b m ≠ 0)) ?turn ?fin)
  case turn =>
    rintro ⟨y, ρ⟩ ys I oI C oC D2 m₂ h tk E' hmem hC hx F' N' off ne
    by_cases hyx : y = x
    · obtain ⟨rfl, rfl⟩ : y = x ∧ ρ = σ := by have := hx1 (y, ρ) hmem hyx; simpa using this
      clear kF kN
      k_unmd
      try k_fold
      k_steps
      all_goals (rename Fr _ _ _ _ => kF; rename News _ _ _ _ => kN)
      all_goals first
        | exact Halt.mk (LCg.CompEnd.intro kF kN _ (fun p hp => hp) off (.inr ⟨_, by k_mem, rfl, _, rfl⟩) (Hold.mk ⟨rfl, by simp [*], rfl⟩))
        | exact Hold.mk ⟨rfl, by simp [*]⟩
        | exact Halt.mk (LCg.CompEnd.intro kF kN _ (fun p hp => hp) off (.inr ⟨_, by k_mem, rfl, _, rfl⟩) (Hold.mk ⟨rfl, by simp [*]⟩))
    · have hly : LAt g' y ρ := hEg (y, ρ) hmem hyx
      clear kF kN
      k_unmd
      try k_fold
      k_steps
      all_goals (rename Fr _ _ _ _ => kF; rename News _ _ _ _ => kN)
      all_goals first
        | exact Halt.mk (LCg.CompEnd.intro kF kN _ (fun p hp => hp) off (.inr ⟨_, by k_mem, rfl, _, rfl⟩) (Hold.mk ⟨rfl, by simp [*], rfl⟩))
        | exact Halt.mk (LCg.CompEnd.intro kF kN _ (fun p hp => hp) off (.inr ⟨_, by k_mem, rfl, _, rfl⟩) (Hold.mk ⟨rfl, by simp [*]⟩))
  case fin =>
    clear kF kN
    rintro D2 h tk F' N' off
    (refine offTo off ?_; clear off; walk_at "np_lt")
    try dsimp only
    k_unmd
    try k_fold
    walk_at "np_toS"
    rename Fr _ _ _ _ => cF; rename News _ _ _ _ => cN
    refine eq_nil_B hfl (cN.get (.tail _ (.head _))) (LsAt.filt (hLs _ _ cF (LAt.ofNews cN (by k_mem)))) (cN.get (.head _)) (by simp only [units_deeper]; omega) ?_
    try dsimp only
    walk_at "np_toS"
    rename Fr _ _ _ _ => cF; rename News _ _ _ _ => cN
    refine' item_L (ls := (pre ++ (x, σ) :: post).filter fun e => decide (lawWay e.2 b m ≠ 0)) ?N ?m ?a ?b ?f ?_
    case N => exact cN
    case m => k_mem
    case a => decide
    case b => rw [hflt]; simp
    case f => have := List.length_filter_le (fun e : LEnt => decide (lawWay e.2 b m ≠ 0)) (pre ++ (x, σ) :: post); omega
    intro e he
    rw [hflt] at he
    obtain rfl : (x, σ) = e := by simpa using he
    clear he
    try dsimp only
    walk_at "np_to"
    have hww : lawWay σ b m = 1 ∨ lawWay σ b m = -1 := by
      revert hyes; unfold lawWay; (repeat' split) <;> simp
    obtain ⟨ww, hwd⟩ : ∃ ww, ww = lawWay σ b m := ⟨_, rfl⟩
    obtain ⟨E0, hE0⟩ : ∃ E0, E0 = edgeOf (lawWay σ b m) b m := ⟨_, rfl⟩
    obtain ⟨R0, hR0⟩ : ∃ R0, R0 = reachOf σ (lawWay σ b m) E0 := ⟨_, rfl⟩
    obtain ⟨F0, hF0⟩ : ∃ F0, F0 = farOf S σ := ⟨_, rfl⟩
    rename Fr _ _ _ _ => cF; rename News _ _ _ _ => cN
    replace cN := News.drop1 (News.drop1 cN)
    clear hflt hfl
    refine cut_int E0 cF cN (fun Q' ret' => ?c1) (fun u1 h1 tk1 F1 N1 => ?c2)
    case c1 =>
      k_steps
      all_goals exact ret' _ _ _ _ (by rw [hE0]; unfold edgeOf; simp [*]) (by assumption) (by assumption)
    clear cF cN
    try dsimp only
    walk_at "np_to"
    rename Fr _ _ _ _ => cF; rename News _ _ _ _ => cN
    refine cut_int R0 cF cN (fun Q' ret' => ?c3) (fun u2 h2 tk2 F2 N2 => ?c4)
    case c3 =>
      k_steps
      all_goals first
        | exact ret' _ _ _ _ (by rw [hR0]; exact (if_pos (by assumption)).symm) (by assumption) (by assumption)
        | (have h0 : σ.way ≠ 0 := by assumption
           obtain ⟨r, hr⟩ : ∃ r, σ.reached = some r := by
             cases e : σ.reached with
             | none => exact absurd e (hg h0)
             | some r => exact ⟨r, rfl⟩
           have hov : optV σ.reached (tx 3) = Value.int r (tx 3) := by rw [hr]; rfl
           have hrO : rOf σ = r := by unfold rOf; rw [hr]; rfl
           rw [hov]
           k_steps
           all_goals exact ret' _ _ _ _ (by rw [hR0]; unfold reachOf; rw [hrO, if_neg h0]; (repeat' split) <;> omega) (by assumption) (by assumption))
    clear cF cN
    try dsimp only
    walk_at "np_to"
    rename Fr _ _ _ _ => cF; rename News _ _ _ _ => cN
    refine cut_int F0 cF cN (fun Q' ret' => ?c5) (fun u3 h3 tk3 F3 N3 => ?c6)
    case c5 =>
      k_steps
      all_goals first
        | exact ret' _ _ _ _ (by rw [hF0]; exact (if_pos (by assumption)).symm) (by assumption) (by assumption)
        | exact ret' _ _ _ _ (by rw [hF0, show farOf S σ = min S.greatest (σ.far * 2) from if_neg (by assumption)]; (repeat' split) <;> omega) (by assumption) (by assumption)
    clear cF cN
    try dsimp only
    walk_at "np_to"
    rename Fr _ _ _ _ => kF; rename News _ _ _ _ => kN
    have hFb : 0 ≤ F0 ∧ F0 ≤ 1000 := by
      obtain ⟨-, -, z3, -⟩ := hz
      rw [hF0]; unfold farOf; split <;> omega
    refine Halt.mk ?_
    refine LCg.CompSrc.range rfl kF kN (by assumption) (small_one (by omega) (by omega) (by omega) (by omega)) (rangeSize_nat _ _) (by rw [sizeLine_eq]; omega) (fun h1 => comp_rangeI (a := 0) (fun i => if lawWay σ b m = 1 then E0 + (i : Int) else E0 - 1 - (i : Int)) ?turn1 ?fin1)
    case turn1 =>
      rintro i u ys I oI C oC D3 m₂ h tk E' hi hC hx F' N' off ne
      clear kF kN
      k_unmd
      try k_fold
      k_steps
      all_goals (rename Fr _ _ _ _ => kF; rename News _ _ _ _ => kN)
      all_goals exact Halt.mk (LCg.CompEnd.intro kF kN _ (fun p hp => hp) off trivial (Hold.mk ⟨rfl, _, by rw [Int.zero_add]; first | rw [if_pos (by assumption)] | rw [if_neg (by assumption)]⟩))
    case fin1 =>
      clear kF kN
      rintro ys1 hys1 D3 h tk F' N' off1'
      clear off1'
      try dsimp only
      k_unmd
      try k_fold
      walk_at "np_to"
      have hyl1 : ys1.length = F0.toNat := by have := IntsAre.length hys1; simp at this; omega
      rename Fr _ _ _ _ => kF; rename News _ _ _ _ => kN
      refine Halt.mk ?_
      refine LCt.CompSrcT.ledger rfl kF kN (ax := D3) (by k_mem) (by rw [sizeLine_eq]; simp only [List.size_toArray]; omega) (fun h1 => comp_filterI hys1 (fun k => if lawWay σ b m = 1 then decide (R0 ≤ k) else decide (k < R0)) ?turn2 ?fin2)
      case turn2 =>
        rintro k u ys I oI C oC D4 m₂ h tk E' hk hC hx F' N' off ne
        clear kF kN
        k_unmd
        try k_fold
        k_steps
        all_goals (rename Fr _ _ _ _ => kF; rename News _ _ _ _ => kN)
        all_goals first
          | exact Halt.mk (LCg.CompEnd.intro kF kN _ (fun p hp => hp) off (.inr ⟨_, by k_mem, rfl, _, rfl⟩) (Hold.mk ⟨rfl, by split <;> simp <;> omega, _, rfl⟩))
          | exact Halt.mk (LCg.CompEnd.intro kF kN _ (fun p hp => hp) off (.inr ⟨_, by k_mem, rfl, _, rfl⟩) (Hold.mk ⟨rfl, by split <;> simp <;> omega⟩))
      case fin2 =>
        clear kF kN
        rintro ys2 hys2 D4 h tk F' N' off2'
        clear off2'
        replace N' := News.drop2 N'
        try dsimp only
        k_unmd
        try k_fold
        walk_at "np_to"
        have hyl2 : ys2.length ≤ F0.toNat := by
          have h1 := IntsAre.length hys2
          have h2 := List.length_filter_le (fun k => if lawWay σ b m = 1 then decide (R0 ≤ k) else decide (k < R0)) ((List.range (F0 - 0).toNat).map fun i : Nat => if lawWay σ b m = 1 then E0 + (i : Int) else E0 - 1 - (i : Int))
          simp only [List.length_map, List.length_range] at h2
          omega
        rename Fr _ _ _ _ => kF; rename News _ _ _ _ => kN
        refine Halt.mk ?_
        refine LCt.CompSrcT.ledger rfl kF kN (ax := D4) (by k_mem) (by rw [sizeLine_eq]; simp only [List.size_toArray]; omega) (fun h1 => comp_filterI hys2 (fun k => decide (0 ≤ k) && (decide (lawWay σ b m = -1) || okMost most k)) ?turn3 ?fin3)
        case turn3 =>
          rintro k u ys I oI C oC D5 m₂ h tk E' hk hC hx F' N' off ne
          clear kF kN
          have hmo : optV most ts = Value.none ∨ ∃ q u, most = some q ∧ optV most ts = Value.int q u := by
            cases most with
            | none => exact .inl rfl
            | some q => exact .inr ⟨q, _, rfl, rfl⟩
          k_unmd
          try k_fold
          k_steps
          · rename Fr _ _ _ _ => kF; rename News _ _ _ _ => kN
            exact Halt.mk (LCg.CompEnd.intro kF kN _ (fun p hp => hp) off (.inr ⟨_, by k_mem, rfl, _, rfl⟩) (Hold.mk ⟨rfl, by simp [*], _, rfl⟩))
          · cases most with
            | none =>
              dsimp only [optV]
              k_steps
              all_goals (rename Fr _ _ _ _ => kF; rename News _ _ _ _ => kN)
              all_goals exact Halt.mk (LCg.CompEnd.intro kF kN _ (fun p hp => hp) off (.inr ⟨_, by k_mem, rfl, _, rfl⟩) (Hold.mk ⟨rfl, by simp [okMost, *], _, rfl⟩))
            | some q =>
              dsimp only [optV]
              k_steps
              dsimp only [optV]
              k_steps
              all_goals (rename Fr _ _ _ _ => kF; rename News _ _ _ _ => kN)
              all_goals first
                | exact Halt.mk (LCg.CompEnd.intro kF kN _ (fun p hp => hp) off (.inr ⟨_, by k_mem, rfl, _, rfl⟩) (Hold.mk ⟨rfl, by simp [okMost, *], _, rfl⟩))
                | exact Halt.mk (LCg.CompEnd.intro kF kN _ (fun p hp => hp) off (.inr ⟨_, by k_mem, rfl, _, rfl⟩) (Hold.mk ⟨rfl, by simp [okMost]; omega⟩))
          · rename Fr _ _ _ _ => kF; rename News _ _ _ _ => kN
            exact Halt.mk (LCg.CompEnd.intro kF kN _ (fun p hp => hp) off (.inr ⟨_, by k_mem, rfl, _, rfl⟩) (Hold.mk ⟨rfl, by simp; omega⟩))
        case fin3 =>
          clear kF kN
          rintro ys3 hys3 D5 h tk F' N' off3'
          (refine offTo off3' ?_; clear off3'; walk_at "np_lt")
          rename @Ne Nat D D5 => hD5; rename @Ne Nat x D5 => hx5; rename @Ne Nat T D5 => hT5
          replace N' := News.drop2 N'
          try dsimp only [lVs] at N'
          try dsimp only
          k_unmd
          try k_fold
          walk_at "np_to"
          rename Fr _ _ _ _ => cF; rename News _ _ _ _ => cN
          replace cN := News.drop1 cN
          obtain ⟨BS, hBS0⟩ : ∃ BS, BS = lawBs (lawWay σ b m) E0 R0 F0 most := ⟨_, rfl⟩
          have hBS : IntsAre ys3 BS := by rw [hBS0]; exact hys3
          have bk : Blk ys3 BS := ⟨hBS, by have := IntsAre.length hBS; have := lawBs_length (w := lawWay σ b m) (E0 := E0) (R0 := R0) (F0 := F0) (most := most); rw [← hBS0] at this; omega⟩
          refine cut_int (lastOf (lawWay σ b m) R0 BS) cF cN (fun Q' ret' => ?c7) (fun u4 h4 tk4 F4 N4 => ?c8)
          case c7 =>
            clear hEg hx1 hLs hys1 hys2 hys3 hE hno hg hz hgr ret
            try dsimp only
            by_cases hB0 : BS = []
            · have hbb : BS.isEmpty = true := by rw [hB0]; rfl
              k_steps
              (rename Fr _ _ _ _ => kF; rename News _ _ _ _ => kN; exact ret' _ _ _ _ (by rw [lastOf, if_pos hB0]) kF (fun q hq => kN q (.tail _ hq)))
            · have hbb : BS.isEmpty = false := by cases BS <;> first | rfl | exact absurd rfl hB0
              k_steps
              · (rename Fr _ _ _ _ => kF; rename News _ _ _ _ => kN; exact ret' _ _ _ _ (by rw [lastOf, if_neg hB0, if_pos (by assumption)]) kF (fun q hq => kN q (.tail _ hq)))
              · (rename Fr _ _ _ _ => kF; rename News _ _ _ _ => kN; exact ret' _ _ _ _ (by rw [lastOf, if_neg hB0, if_neg (by assumption)]) kF (fun q hq => kN q (.tail _ hq)))
          case c8 =>
            clear cF cN
            try dsimp only
            walk_at "np_to"
            rename Fr _ _ _ _ => kF; rename News _ _ _ _ => kN
            obtain ⟨kp, tl, rfl, htl, kN⟩ := news_split kN
            obtain ⟨σ', hσ'⟩ : ∃ τ : St, τ = ⟨lawWay σ b m, b, b + m, some (lastOf (lawWay σ b m) R0 BS), F0, S.stamp + 1⟩ := ⟨_, rfl⟩
            obtain ⟨ls2, hls2⟩ : ∃ ls2 : List LEnt, ls2 = pre ++ (x, σ') :: post := ⟨_, rfl⟩
            have hrf : refsL (pre ++ (x, σ) :: post) = refsL ls2 := by rw [hls2]; simp [refsL]
            have hl2 : ls2.length ≤ 50 := by rw [hls2]; simpa using hlen
            have hEk : ∀ e ∈ ls2, e.1 ≠ x → LAt g' e.1 e.2 := fun e he hex => hEg e (by
              rw [hls2] at he
              rcases List.mem_append.mp he with h | h
              · exact List.mem_append_left _ h
              · rcases List.mem_cons.mp h with h | h
                · rw [h] at hex; exact absurd rfl hex
                · exact List.mem_append_right _ (.tail _ h)) hex
            have hxk : ∀ e ∈ ls2, e.1 = x → e = (x, σ') := fun e he hex => by
              rw [hls2] at he
              rcases List.mem_append.mp he with h | h
              · have := hx1 e (List.mem_append_left _ h) hex
                rw [List.map_append, List.map_cons, List.nodup_append] at hnd
                exact absurd hex (hnd.2.2 _ (List.mem_map_of_mem h) _ (.head _))
              · rcases List.mem_cons.mp h with h | h
                · exact h
                · rw [List.map_append, List.map_cons, List.nodup_append] at hnd
                  have := (List.nodup_cons.mp hnd.2.1).1
                  rw [show (x, σ).1 = x from rfl, ← hex] at this
                  exact absurd (List.mem_map_of_mem (f := fun e : LEnt => e.1) h) this
            clear hEg hx1 hLs
            simp +zetaDelta only [hrf] at htl
            have hTtl : (T, listOf (refsL ls2).toArray nt) ∈ tl := by rw [htl]; k_mem
            dsimp only
            refine Halt.mk ?_
            refine loop_listJ (α := LEnt) (f := fun e => .ref e.1) (l := ls2) [Str.ofString "other", Str.ofString "waits"] (fun r n' => Hold (∃ c dn, ls2 = dn ++ r ∧ n' = (kp, listOf (refsL (dn.filter fun e => lawKeep (lawWay σ b m) E0 (S.stamp + 1) e.2)).toArray c) :: tl))
              (L := L') rfl rfl kF kN (.tail _ hTtl) rfl rfl rfl (Hold.mk ⟨_, [], rfl, rfl⟩) ?lnil ?lcons
            case lnil =>
              clear kF kN
              rintro m' n' h' tk' ⟨c, dn, hdn, rfl⟩ F' N'
              rw [List.append_nil] at hdn
              subst hdn
              subst htl
              try dsimp only
              k_unmd
              try k_fold
              k_steps
              try dsimp only
              rename Fr _ _ _ _ => kF; rename News _ _ _ _ => kN
              subst hE0 hR0 hF0
              refine ret _ _ D5 _ _ kp _ ys3 BS σ' hBS0 hσ' ?_ ?_ (kN.get (by k_mem)) hBS (kN.get (by k_mem)) ⟨_, by assumption⟩ ?_ (by rw [← hls2]; exact kN.get (by k_mem)) ?_
              · exact keepBut_news kG' kF kN (List.forall_mem_cons.mpr ⟨hD, List.forall_mem_cons.mpr ⟨hxs, List.forall_mem_singleton.mpr hT⟩⟩) (List.forall_mem_cons.mpr ⟨.inl (.head _), List.forall_mem_cons.mpr ⟨.inl (.tail _ (.head _)), List.forall_mem_singleton.mpr (.inr (by rw [hrf]; k_mem))⟩⟩)
              · exact none_but kG' kN (o := LCg.lst ys3) (by k_mem) (nm3 (by omega) (by omega) (by omega))
              · exact none_but kG' kN (.head _) (nm3 (by omega) (by omega) (by omega))
              · rw [hσ']; exact LAt.mkS (kN.get (by k_mem))
            case lcons =>
              clear kF kN
              rintro ⟨y, ρ⟩ r m' n' I it h' tk' hI ⟨c, dn, hdn, rfl⟩ hit F' N'
              have hmem : (y, ρ) ∈ ls2 := by rw [hdn]; simp
              have hfil : (refsL (dn.filter fun e => lawKeep (lawWay σ b m) E0 (S.stamp + 1) e.2)).length ≤ 100 := by
                have h1 := List.length_filter_le (fun e : LEnt => lawKeep (lawWay σ b m) E0 (S.stamp + 1) e.2) dn
                have h2 : dn.length ≤ ls2.length := by rw [hdn]; simp
                simp only [refsL, List.length_map]; omega
              have hkp : lawKeep (lawWay σ b m) E0 (S.stamp + 1) ρ = true → refsL ((dn ++ [(y, ρ)]).filter fun e => lawKeep (lawWay σ b m) E0 (S.stamp + 1) e.2) = refsL (dn.filter fun e => lawKeep (lawWay σ b m) E0 (S.stamp + 1) e.2) ++ [Value.ref y] := fun h => by
                rw [List.filter_append, List.filter_cons_of_pos (by simpa using h)]; simp [refsL]
              have hkn : lawKeep (lawWay σ b m) E0 (S.stamp + 1) ρ = false → refsL ((dn ++ [(y, ρ)]).filter fun e => lawKeep (lawWay σ b m) E0 (S.stamp + 1) e.2) = refsL (dn.filter fun e => lawKeep (lawWay σ b m) E0 (S.stamp + 1) e.2) := fun h => by
                rw [List.filter_append, List.filter_cons_of_neg (by simp [h]), List.filter_nil, List.append_nil]
              have hdn2 : ls2 = (dn ++ [(y, ρ)]) ++ r := by rw [hdn]; simp
              subst htl
              have hIk : @LT.lt Nat _ kp I := hI (kp, _) (.head _)
              have hofk : ∀ (o' : Obj) (tl' : List (Addr × Obj)), (∀ p ∈ tl', @LT.lt Nat _ p.1 I) → ∀ p ∈ (kp, o') :: tl', p.1 ≠ I := fun o' tl' htl' p hp => by
                rcases List.mem_cons.mp hp with h | hp
                · rw [h]; exact Nat.ne_of_lt hIk
                · exact Nat.ne_of_lt (htl' p hp)
              have hI2 := fun p hp => hI p (List.mem_cons_of_mem _ hp)
              by_cases hyx : y = x
              · obtain ⟨rfl, rfl⟩ : y = x ∧ ρ = σ' := by have := hxk (y, ρ) hmem hyx; simpa using this
                have hst : lawKeep (lawWay σ b m) E0 (S.stamp + 1) ρ = true := by rw [hσ']; simp [lawKeep]
                try dsimp only
                k_unmd
                try k_fold
                k_steps
                all_goals first
                  | exact absurd rfl (by assumption)
                  | (rename Fr _ _ _ _ => kF; rename News _ _ _ _ => kN
                     refine Hold.mk ⟨_, _, _, _, rfl, kF, kN, hofk _ _ hI2, .tail _ (by k_mem), Hold.mk ⟨c + 1, dn ++ [(y, ρ)], hdn2, by (rw [hkp hst]; done)⟩, fun yy hyy => ?_⟩
                     obtain ⟨h1, h2⟩ := off2 hyy
                     simp +zetaDelta only [h1, h2, hyy, if_false, Bool.false_eq_true])
              · obtain ⟨te, ne', hxe⟩ := hEk (y, ρ) hmem hyx
                dsimp only at hxe
                have hIL : g'.IsList y #[.int ρ.way (te 0), .int ρ.low (te 1), .int ρ.high (te 2), optV ρ.reached (te 3), .int ρ.far (te 4), .int ρ.stamp (te 5)] := ⟨_, hxe, rfl, _, rfl⟩
                try dsimp only
                k_unmd
                try k_fold
                k_steps
                all_goals first
                  | (have hst : lawKeep (lawWay σ b m) E0 (S.stamp + 1) ρ = true := by (first | exact keepA (by assumption) | exact keepB (by assumption) | exact keepC1 (by assumption) (by assumption) | exact keepC2 (by assumption) (by assumption))
                     rename Fr _ _ _ _ => kF; rename News _ _ _ _ => kN
                     refine Hold.mk ⟨_, _, _, _, rfl, kF, kN, hofk _ _ hI2, .tail _ (by k_mem), Hold.mk ⟨c + 1, dn ++ [(y, ρ)], hdn2, by (rw [hkp hst]; done)⟩, fun yy hyy => ?_⟩
                     obtain ⟨h1, h2⟩ := off2 hyy
                     simp +zetaDelta only [h1, h2, hyy, if_false, Bool.false_eq_true])
                  | (have hst : lawKeep (lawWay σ b m) E0 (S.stamp + 1) ρ = false := by (first | exact keepN1 (by assumption) (by assumption) (by assumption) (by assumption) | exact keepN2 (by assumption) (by assumption) (by assumption) (by assumption))
                     rename Fr _ _ _ _ => kF; rename News _ _ _ _ => kN
                     refine Hold.mk ⟨_, _, _, _, rfl, kF, kN, hofk _ _ hI2, .tail _ (by k_mem), Hold.mk ⟨c, dn ++ [(y, ρ)], hdn2, by (rw [hkn hst]; done)⟩, fun yy hyy => ?_⟩
                     obtain ⟨h1, h2⟩ := off2 hyy
                     simp +zetaDelta only [h1, h2, hyy, if_false, Bool.false_eq_true])
end
theorem wNpU7 : True := by
  k_with_none
  (k_with "np_omega" => (first
      | (with_reducible assumption)
      | omega -splitDisjunctions
      | ((with_reducible show @Ne Nat _ _); with_reducible refine Ne.symm ?_; with_reducible assumption)
      | (refine Nat.le_antisymm ?_ ?_ <;> omega -splitDisjunctions)
      | (refine Int.le_antisymm ?_ ?_ <;> omega -splitDisjunctions)
      | omega +splitDisjunctions))
  (k_with "np_mm" => (first
      | (simp (disch := (first | assumption | exact Int.le_of_lt (by assumption) | exact Int.not_lt.mp (by assumption) | omega)) only [Int.max_eq_right, Int.max_eq_left, Int.min_eq_right, Int.min_eq_left]; done)
      | omega))
  (k_with "np_lt" => (k_dflt (repeat (intro _)); k_dflt (refine Got.mk ?_)))
  (k_with "np_ne" => (first
      | (with_reducible refine Nat.ne_of_lt ?_; with_reducible assumption)
      | (with_reducible refine Nat.ne_of_gt ?_; with_reducible assumption)
      | (with_reducible assumption)
      | (with_reducible refine Ne.symm ?_; with_reducible assumption)
      | (refine neN ?_; (try dsimp only); omega)))
  (k_with "np_mem" => (first
      | ((repeat' (with_reducible first | exact List.Mem.head _ | refine List.Mem.tail _ ?_)); done)
      | (with_reducible assumption)
      | assumption))
  (k_with "ite" => (k_closed; k_dflt (first | refine ite_pos (by decide) ?_ | refine ite_neg (by decide) ?_)))
  (k_with "callWith ref" => (k_here; k_dflt (first | (refine' callWith_K ?k1_q ?k2_q ?_; (case k1_q => k_asm); (case k2_q => k_is); k_whole) | (refine' callWith_K0 ?k1_q ?k2_q ?_; (case k1_q => exact Frag.In.keeps (by k_asm) (Fr.keep (by k_asm))); (case k2_q => k_is); k_whole))))
  (k_with "CompEnd" => (with_reducible refine haltIt ?_))
  (k_with "CompSrc" => (with_reducible refine haltIt ?_))
  (k_with "CompSrcT" => (with_reducible refine haltIt ?_))
  (k_with "np_inst" => (first
      | (refine' InstAt.of_base ?F_q ?h1_q ?h2_q; (case F_q => k_asm); (case h1_q => k_asm); (case h2_q => k_asm))
      | (refine' InstAt.of_mixed ?F_q ?h1_q ?N_q ?h2_q; (case F_q => k_asm); (case h1_q => k_asm); (case N_q => k_asm); (case h2_q => k_mem))))
  (k_with "np_handed" => (exact handed_opt _ _))
  (k_with "np_enter" => (case ho => k_dflt k_is); (case hcd => k_dflt k_is); (try (case hr => (first | omega | (dsimp only; omega)))); (case hbind => first | exact BindsTo.of_eq rfl | (refine' binds_K ?bx_q ?b1_q ?b2_q ?b3_q ?b4_q ?b5_q; (case bx_q => assumption); (case b1_q => exact rfl); (case b2_q => k_dflt k_is); (case b3_q => exact rfl); (case b4_q => exact rfl); (case b5_q => exact rfl))); (case hloc => exact locs rfl); (case ha => exact rfl); (case hb => exact rfl); (case hc => exact rfl); (case hd => decide))
  (k_with "np_enterX" => (case ho => k_dflt k_is); (case hcd => k_dflt k_is); (try (case hr => (first | omega | (dsimp only; omega)))); (case hbind => first | exact BindsTo.of_eq rfl | (refine' binds_K ?bx_q ?b1_q ?b2_q ?b3_q ?b4_q ?b5_q; (case bx_q => assumption); (case b1_q => exact rfl); (case b2_q => k_dflt k_is); (case b3_q => exact rfl); (case b4_q => exact rfl); (case b5_q => exact rfl))); (case hkd => exact rfl); (case hnd => decide +kernel); (case ha => exact rfl); (case hb => exact rfl); (case hc => exact rfl))
  (k_with "subscriptTail Name Constant ref str" => (k_here; (with_reducible show wpAny _ _ (subscriptTail _ _ (Value.ref _) (Value.str _ _)) _ _ _); k_dflt (refine kda_item (knd := PySem.strKind _ _) (by k_asm) (by k_mem) (by k_asm) (strKind_is _ _ _ _) (by rfl) ?_)))
  (k_with "setItem ref str" => (k_here; k_dflt (refine' kda_set (knd := PySem.strKind _ _) ?F_q ?N_q ?U_q ?d_q (strKind_is _ _ _ _) ?z_q ?_; (case F_q => k_asm); (case N_q => k_asm); (case U_q => k_updF); (case d_q => k_asm); (case z_q => rw [sizeLine_eq]; exact Nat.le_of_ble_eq_true (by with_unfolding_all rfl))); intro _ _ _ N'q hd'q; (try simp only [stored_streams, stored_stamp, stored_hits, stored_misses, stored_asked] at hd'q); (try dsimp only at N'q)))
  (k_with "eval ListComp" => (k_here; first | (lct_look; k_dflt (refine LCt.ListComp_T (F₀ := by k_asm) (by with_unfolding_all rfl) (by decide) (by rfl) (by decide) (by rfl) ?_)) | ((with_reducible show wpAny _ _ (eval (Expr.ListComp _ [Comprehension.mk _ _ [] _] _ _) _) _ _ _); k_dflt (refine LCg.ListComp_U (F₀ := by k_asm) (by with_unfolding_all rfl) (by decide) (by rfl) (by decide) (by rfl) ?_))))
  (k_with "exec Assign cons ListComp" => (k_here; first | (lct_look; k_dflt (refine LCt.Assign_ListComp_T (F₀ := by k_asm) (by rfl) (by with_unfolding_all rfl) (by with_unfolding_all rfl) (by decide) (by rfl) (by decide) (by rfl) (by rfl) (by rfl) ?_)) | (k_dflt (refine LCg.Assign_ListComp_U (F₀ := by k_asm) (by rfl) (by with_unfolding_all rfl) (by with_unfolding_all rfl) (by decide) (by rfl) (by decide) (by rfl) (by rfl) (by rfl) ?_))))
  (k_with "call builtin:len" => (k_here; (with_reducible show wpAny _ _ (call (Value.builtin "len") [Value.ref _]) _ _ _); (refine' len_L ?N_q ?m_q ?f_q ?_; (case N_q => k_asm); (case m_q => k_mem); (case f_q => with_reducible assumption))))
  (k_with "call ref" => (k_here; (with_reducible show wpAny _ _ (call (Value.ref 191) _) _ _ _); (with_reducible rename Fr _ _ _ _ => cF'q); (with_reducible rename News _ _ _ _ => cN'q); refine' law_way_spec ?G_q ?k_q ?a_q ?d_q ?x_q ?_; (case G_q => k_asm); (case k_q => exact Fr.keep cF'q); (case a_q => exact rfl); (case d_q => (simp only [depth_under_make, depth_in1, depth_deeper]; omega)); (case x_q => first | exact LAt.up (by assumption) (Fr.keep cF'q) | exact LAt.ofNews cN'q (by k_mem)); k_whole; intro _ _ _ U'q; (have F'q := Fr.keeps cF'q U'q); (have N'q := News.grown cN'q U'q); (clear cF'q cN'q U'q); (try dsimp only)))
  (k_with "subscriptTail" => (k_here; (with_reducible show wpAny _ _ (subscriptTail _ _ (Value.ref _) (Value.int _ _)) _ _ _); k_dflt (refine' item_lv ?N_q ?m_q ?a_q ?b_q ?x_q ?_ ?hs_q; (case N_q => k_asm); (case m_q => k_mem); (case a_q => decide); (case b_q => decide); (case x_q => rfl); (case hs_q => with_unfolding_all rfl); k_whole)))
  (k_with "setItem ref int" => (k_here; (with_reducible show wpAny _ _ (setItem (Value.ref _) (Value.int _ _) _) _ _ _); k_dflt (refine' ki_set ?F_q ?N_q ?a_q ?b_q ?e_q ?U_q ?_; (case F_q => k_asm); (case N_q => k_asm); (case U_q => k_upd); (case a_q => decide); (case b_q => decide); (case e_q => rfl)); intro _ _ N'q; (try dsimp only [List.nil_append, List.cons_append] at N'q)))
  (k_with "np_to" => (repeat' (first | (k_unfold; (try dsimp only)) | (k_end; wrow_close) | ((fail_if_success (with_reducible show wpAny _ _ (eval (Expr.IfExp _ _ _ _) _) _ _ _)); walk1) | ((fail_if_success (with_reducible show wpAny _ _ (eval (Expr.IfExp _ _ _ _) _) _ _ _)); dsimp only; walk1) | (leave1; walk_say "STEP leave1"; try dsimp only))))
  (k_with "compareOp Eq ref ref" => (k_here; (with_reducible show wpAny _ _ (compareOp CmpOp.Eq (Value.ref _) (Value.ref _)) _ _ _); k_dflt (refine' eq_nil_B ?b_q ?T_q ?l_q ?n_q ?u_q ?_; (case T_q => exact News.get (by k_asm) (by k_mem)); (case b_q => assumption); (case l_q => exact LsAt.up (LsAt.filt (by assumption)) (Fr.keep (by k_asm))); (case n_q => exact News.get (by k_asm) (by k_mem)); (case u_q => (simp only [units_deeper, units_in1]; omega)))))
  trivial
end

section
theorem wNpW0 : True := by
  k_with_none
  (k_with "np_omega" => (first
      | (with_reducible assumption)
      | omega -splitDisjunctions
      | ((with_reducible show @Ne Nat _ _); with_reducible refine Ne.symm ?_; with_reducible assumption)
      | (refine Nat.le_antisymm ?_ ?_ <;> omega -splitDisjunctions)
      | (refine Int.le_antisymm ?_ ?_ <;> omega -splitDisjunctions)
      | omega +splitDisjunctions))
  (k_with "np_mm" => (first
      | (simp (disch := (first | assumption | exact Int.le_of_lt (by assumption) | exact Int.not_lt.mp (by assumption) | omega)) only [Int.max_eq_right, Int.max_eq_left, Int.min_eq_right, Int.min_eq_left]; done)
      | omega))
  (k_with "np_lt" => (k_dflt (repeat (intro _)); k_dflt (refine Got.mk ?_)))
  (k_with "np_ne" => (first
      | (with_reducible refine Nat.ne_of_lt ?_; with_reducible assumption)
      | (with_reducible refine Nat.ne_of_gt ?_; with_reducible assumption)
      | (with_reducible assumption)
      | (with_reducible refine Ne.symm ?_; with_reducible assumption)
      | (refine neN ?_; (try dsimp only); omega)))
  (k_with "np_mem" => (first
      | ((repeat' (with_reducible first | exact List.Mem.head _ | refine List.Mem.tail _ ?_)); done)
      | (with_reducible assumption)
      | assumption))
  (k_with "ite" => (k_closed; k_dflt (first | refine ite_pos (by decide) ?_ | refine ite_neg (by decide) ?_)))
  (k_with "callWith ref" => (k_here; k_dflt (first | (refine' callWith_K ?k1_q ?k2_q ?_; (case k1_q => k_asm); (case k2_q => k_is); k_whole) | (refine' callWith_K0 ?k1_q ?k2_q ?_; (case k1_q => exact Frag.In.keeps (by k_asm) (Fr.keep (by k_asm))); (case k2_q => k_is); k_whole))))
  (k_with "CompEnd" => (with_reducible refine haltIt ?_))
  (k_with "CompSrc" => (with_reducible refine haltIt ?_))
  (k_with "CompSrcT" => (with_reducible refine haltIt ?_))
  (k_with "np_inst" => (first
      | (refine' InstAt.of_base ?F_q ?h1_q ?h2_q; (case F_q => k_asm); (case h1_q => k_asm); (case h2_q => k_asm))
      | (refine' InstAt.of_mixed ?F_q ?h1_q ?N_q ?h2_q; (case F_q => k_asm); (case h1_q => k_asm); (case N_q => k_asm); (case h2_q => k_mem))))
  (k_with "execs cons" => (k_here; (try (with_reducible refine gentok ?_; intro _)); (with_reducible refine wpAny_execs_cons ?_); (try dsimp only); (try k_fold)))
  (k_with "execs nil" => (k_here; with_reducible refine gentok ?_; intro _))
  (k_with "np_handed" => (exact handed_opt _ _))
  (k_with "np_enter" => (case ho => k_dflt k_is); (case hcd => k_dflt k_is); (try (case hr => (first | omega | (dsimp only; omega)))); (case hbind => first | exact BindsTo.of_eq rfl | (refine' binds_K ?bx_q ?b1_q ?b2_q ?b3_q ?b4_q ?b5_q; (case bx_q => assumption); (case b1_q => exact rfl); (case b2_q => k_dflt k_is); (case b3_q => exact rfl); (case b4_q => exact rfl); (case b5_q => exact rfl))); (case hloc => exact locs rfl); (case ha => exact rfl); (case hb => exact rfl); (case hc => exact rfl); (case hd => decide))
  (k_with "np_enterX" => (case ho => k_dflt k_is); (case hcd => k_dflt k_is); (try (case hr => (first | omega | (dsimp only; omega)))); (case hbind => first | exact BindsTo.of_eq rfl | (refine' binds_K ?bx_q ?b1_q ?b2_q ?b3_q ?b4_q ?b5_q; (case bx_q => assumption); (case b1_q => exact rfl); (case b2_q => k_dflt k_is); (case b3_q => exact rfl); (case b4_q => exact rfl); (case b5_q => exact rfl))); (case hkd => exact rfl); (case hnd => decide +kernel); (case ha => exact rfl); (case hb => exact rfl); (case hc => exact rfl))
  trivial
/-- an exception under way, its class and its own dict told -/
noncomputable def TD (cls : Value) (dd : Option Addr) (h base : Heap) (e : Addr) (fl : Value) : Prop :=
  ∃ oe vs T oT ts, h.get? e = some oe ∧ oe.cls = cls ∧ oe.dict = dd ∧ oe.data = .fields vs ∧ vs[1]? = some (.ref T) ∧ base.get? T = none ∧ T ≠ e ∧ h.get? T = some oT ∧ oT.data = .fields ts ∧ ts[3]? = some fl
section
variable {M : Model} {A : Around} {E : Value → Shared → Prop} {s : Shared} {cls : Value} {dd : Option Addr} {base : Heap} {env : Env} {outer : List Env} {L e : Addr} {Q : Unit → Shared → Prop}
theorem dict_mapFields {o : Obj} (f : Array Value → Array Value) : (Obj.mapFields f o).dict = o.dict := by
  obtain ⟨a, b, c, d⟩ := o; cases c <;> rfl
theorem entryD {oe : Obj} {vs : Array Value} {head : Value} {hadNext : Bool}
    (hfr : A.frames = some (env :: outer)) (hl : s.heap.FunFrames base (env :: outer)) (hf : env.frame = some L)
    (he : s.heap.get? e = some oe) (hkb : base.StaysIn s.heap) (hen : base.get? e = none) (hd : oe.data = .fields vs) (hsz : 1 < vs.size)
    (h : ∀ h', base.StaysIn h' → h'.FunFrames base (env :: outer) → TD oe.cls oe.dict h' base e (rawInt L) → s.heap.UpToSlots h' → Q () { s with heap := h' }) :
    wpAny M A (do let a ← frameOf env; let pl ← entryPlaceOf L hadNext; let b ← EntryCells.newEntry head a .none (rawInt L) .none pl; setField (.ref e) 1 b) Q E s := by
  have out : e ∉ (env :: outer).filterMap (·.frame) := fun hm => by
    obtain ⟨_, o, ho, hnf⟩ := hl.mem hm
    rw [he] at ho; injection ho with ho; subst ho; exact hnf vs hd
  refine wpAny_bind (wpAny_frameOf_fun hfr hl hf fun h₁ hs₁ => ?_)
  refine wpAny_bind (wpAny_entryPlaceOf fun pl hpl => ?_)
  unfold EntryCells.newEntry newFields
  refine wpAny_bind (wpAny_newObj_type ?_ (hpl.sizeOk5 _ _ _ _ _))
  have a1 : h₁.get? e = some oe := (hs₁.2.1 e out).trans he
  have a2 : base.StaysIn h₁ := fun b o q => (hs₁.2.1 b fun hm => by rw [(hl.mem hm).1] at q; cases q).trans (hkb b o q)
  refine wpAny_setField (Heap.get?_push_of_some _ a1) hd hsz (h _ ?_ (hl.of_keeps fun b o hb hnf => ?_) ?_ fun b o hb hnf => ?_)
  · intro b o q
    rw [Heap.get?_update_other _ _ (fun z : e = b => by rw [← z, hen] at q; cases q)]
    exact Heap.get?_push_of_some _ (a2 b o q)
  · obtain ⟨sl, z⟩ := hs₁.2.2 b o hb
    refine ⟨{ o with slots := sl }, ?_, rfl⟩
    rw [Heap.get?_update_other _ _ (fun z : e = b => by rw [← z, he] at hb; injection hb with hb; subst hb; exact hnf vs hd)]
    exact Heap.get?_push_of_some _ z
  · have ne : h₁.objs.size ≠ e := Nat.ne_of_gt (Heap.lt_size a1)
    refine ⟨_, _, h₁.objs.size, _, _, Heap.get?_update_self _ (Heap.get?_push_of_some _ a1) (Obj.isFreed_of_fields (Obj.data_mapFields hd _)), Obj.cls_mapFields _ _, dict_mapFields _, Obj.data_mapFields hd _, by simp [hsz], a2.fresh, ne,
      (Heap.get?_update_other _ _ (Ne.symm ne)).trans (Heap.get?_push_size h₁ rfl), rfl, ?_⟩
    first | (simp; done) | (rcases hpl with rfl | ⟨_, _, _, _, _, _, _, rfl⟩ <;> simp)
  · obtain ⟨sl, z⟩ := hs₁.2.2 b o hb
    refine ⟨sl, ?_⟩
    rw [Heap.get?_update_other _ _ (fun z : e = b => by rw [← z, he] at hb; injection hb with hb; subst hb; exact hnf vs hd)]
    exact Heap.get?_push_of_some _ z
theorem noteFrame_firstD {oe : Obj} {vs : Array Value}
    (hfr : A.frames = some (env :: outer)) (hl : s.heap.FunFrames base (env :: outer)) (hf : env.frame = some L)
    (he : s.heap.get? e = some oe) (hkb : base.StaysIn s.heap) (hen : base.get? e = none) (hd : oe.data = .fields vs) (h1 : vs[1]? = some .none)
    (h : ∀ h', base.StaysIn h' → h'.FunFrames base (env :: outer) → TD oe.cls oe.dict h' base e (rawInt L) → s.heap.UpToSlots h' → Q () { s with heap := h' }) : wpAny M A (noteFrame (.ref e) env) Q E s := by
  unfold noteFrame
  simp only [hf]
  refine wpAny_bind (wpAny_field he hd h1 ?_)
  rw [if_neg (by decide)]
  exact entryD hfr hl hf he hkb hen hd (Array.getElem?_eq_some_iff.mp h1).1 h
theorem noteFrame_onD (hfr : A.frames = some (env :: outer)) (hl : s.heap.FunFrames base (env :: outer)) (hf : env.frame = some L) (ht : TD cls dd s.heap base e .none) (hkb : base.StaysIn s.heap) (hen : base.get? e = none)
    (h : ∀ h', base.StaysIn h' → h'.FunFrames base (env :: outer) → TD cls dd h' base e (rawInt L) → s.heap.UpToSlots h' → Q () { s with heap := h' }) : wpAny M A (noteFrame (.ref e) env) Q E s := by
  obtain ⟨oe, vs, T, oT, ts, he, rfl, rfl, hd, h1, hnT, hTe, hT, hdT, h3⟩ := ht
  unfold noteFrame
  simp only [hf]
  refine wpAny_bind (wpAny_field he hd h1 ?_)
  rw [if_pos (show (Value.ref T != Value.none) = true from by simp)]
  refine wpAny_bind (wpAny_field hT hdT h3 ?_)
  rw [if_neg (show ¬ ((Value.none == rawInt L) = true) from by simp [rawInt])]
  refine wpAny_bind (wpAny_setField hT hdT (Array.getElem?_eq_some_iff.mp h3).1 ?_)
  have kp : ∀ b o, s.heap.get? b = some o → (∀ vs, o.data ≠ .fields vs) → (s.heap.update T (Obj.mapFields (·.setIfInBounds 3 Value.none))).get? b = some o := fun b o hb hnf =>
    (Heap.get?_update_other _ _ fun z : T = b => by rw [← z, hT] at hb; injection hb with hb; subst hb; exact hnf ts hdT).trans hb
  refine entryD hfr (hl.of_keeps fun b o hb hnf => ⟨o, kp b o hb hnf, rfl⟩) hf ((Heap.get?_update_other _ _ hTe).trans he)
    (fun b o q => (Heap.get?_update_other _ _ fun z : T = b => by rw [← z, hnT] at q; cases q).trans (hkb b o q)) hen hd (Array.getElem?_eq_some_iff.mp h1).1
    fun h' x1 x2 x3 x4 => h h' x1 x2 x3 fun b o hb hnf => x4 b o (kp b o hb hnf) hnf
theorem setFlightD {l : List Env} {fl : Value} (hkb : base.StaysIn s.heap) (hl : s.heap.FunFrames base l) (ht : TD cls dd s.heap base e fl)
    (h : ∀ h', base.StaysIn h' → h'.FunFrames base l → TD cls dd h' base e .none → s.heap.UpToSlots h' → Q () { s with heap := h' }) : wpAny M A (setFlight (.ref e) none) Q E s := by
  obtain ⟨oe, vs, T, oT, ts, he, rfl, rfl, hd, h1, hnT, hTe, hT, hdT, h3⟩ := ht
  have z3 : 3 < ts.size := (Array.getElem?_eq_some_iff.mp h3).1
  unfold setFlight
  refine wpAny_bind (wpAny_field he hd h1 ?_)
  rw [if_pos (show (Value.ref T != Value.none) = true from by simp)]
  have kp : ∀ b o, s.heap.get? b = some o → (∀ vs, o.data ≠ .fields vs) → (s.heap.update T (Obj.mapFields (·.setIfInBounds 3 ((none : Option Addr).elim Value.none fun f => rawInt f)))).get? b = some o := fun b o hb hnf =>
    (Heap.get?_update_other _ _ fun z : T = b => by rw [← z, hT] at hb; injection hb with hb; subst hb; exact hnf ts hdT).trans hb
  refine wpAny_setField hT hdT z3 (h _ (fun b o q => (Heap.get?_update_other _ _ fun z : T = b => by rw [← z, hnT] at q; cases q).trans (hkb b o q)) (hl.of_keeps fun b o hb hnf => ⟨o, kp b o hb hnf, rfl⟩) ?_ fun b o hb hnf => ⟨o.slots, kp b o hb hnf⟩)
  exact ⟨oe, vs, T, _, _, (Heap.get?_update_other _ _ hTe).trans he, rfl, rfl, hd, h1, hnT, hTe, Heap.get?_update_self _ hT (Obj.isFreed_of_fields (Obj.data_mapFields hdT _)), Obj.data_mapFields hdT _, by simp [z3]⟩
end
end

section
theorem wNpX10 : True := by
  k_with_none
  (k_with "np_omega" => (first
      | (with_reducible assumption)
      | omega -splitDisjunctions
      | ((with_reducible show @Ne Nat _ _); with_reducible refine Ne.symm ?_; with_reducible assumption)
      | (refine Nat.le_antisymm ?_ ?_ <;> omega -splitDisjunctions)
      | (refine Int.le_antisymm ?_ ?_ <;> omega -splitDisjunctions)
      | omega +splitDisjunctions))
  (k_with "np_mm" => (first
      | (simp (disch := (first | assumption | exact Int.le_of_lt (by assumption) | exact Int.not_lt.mp (by assumption) | omega)) only [Int.max_eq_right, Int.max_eq_left, Int.min_eq_right, Int.min_eq_left]; done)
      | omega))
  (k_with "np_lt" => (k_dflt (repeat (intro _)); k_dflt (refine Got.mk ?_)))
  (k_with "np_ne" => (first
      | (with_reducible refine Nat.ne_of_lt ?_; with_reducible assumption)
      | (with_reducible refine Nat.ne_of_gt ?_; with_reducible assumption)
      | (with_reducible assumption)
      | (with_reducible refine Ne.symm ?_; with_reducible assumption)
      | (refine neN ?_; (try dsimp only); omega)))
  (k_with "np_mem" => (first
      | ((repeat' (with_reducible first | exact List.Mem.head _ | refine List.Mem.tail _ ?_)); done)
      | (with_reducible assumption)
      | assumption))
  (k_with "ite" => (k_closed; k_dflt (first | refine ite_pos (by decide) ?_ | refine ite_neg (by decide) ?_)))
  (k_with "callWith ref" => (k_here; k_dflt (first | (refine' callWith_K ?k1_q ?k2_q ?_; (case k1_q => k_asm); (case k2_q => k_is); k_whole) | (refine' callWith_K0 ?k1_q ?k2_q ?_; (case k1_q => exact Frag.In.keeps (by k_asm) (Fr.keep (by k_asm))); (case k2_q => k_is); k_whole))))
  (k_with "CompEnd" => (with_reducible refine haltIt ?_))
  (k_with "CompSrc" => (with_reducible refine haltIt ?_))
  (k_with "CompSrcT" => (with_reducible refine haltIt ?_))
  (k_with "np_inst" => (first
      | (refine' InstAt.of_base ?F_q ?h1_q ?h2_q; (case F_q => k_asm); (case h1_q => k_asm); (case h2_q => k_asm))
      | (refine' InstAt.of_mixed ?F_q ?h1_q ?N_q ?h2_q; (case F_q => k_asm); (case h1_q => k_asm); (case N_q => k_asm); (case h2_q => k_mem))))
  (k_with "execs cons" => (k_here; (try (with_reducible refine gentok ?_; intro _)); (with_reducible refine wpAny_execs_cons ?_); (try dsimp only); (try k_fold)))
  (k_with "execs nil" => (k_here; with_reducible refine gentok ?_; intro _))
  (k_with "np_handed" => (exact handed_opt _ _))
  (k_with "np_enter" => (case ho => k_dflt k_is); (case hcd => k_dflt k_is); (try (case hr => (first | omega | (dsimp only; omega)))); (case hbind => first | exact BindsTo.of_eq rfl | (refine' binds_K ?bx_q ?b1_q ?b2_q ?b3_q ?b4_q ?b5_q; (case bx_q => assumption); (case b1_q => exact rfl); (case b2_q => k_dflt k_is); (case b3_q => exact rfl); (case b4_q => exact rfl); (case b5_q => exact rfl))); (case hloc => exact locs rfl); (case ha => exact rfl); (case hb => exact rfl); (case hc => exact rfl); (case hd => decide))
  (k_with "np_enterX" => (case ho => k_dflt k_is); (case hcd => k_dflt k_is); (try (case hr => (first | omega | (dsimp only; omega)))); (case hbind => first | exact BindsTo.of_eq rfl | (refine' binds_K ?bx_q ?b1_q ?b2_q ?b3_q ?b4_q ?b5_q; (case bx_q => assumption); (case b1_q => exact rfl); (case b2_q => k_dflt k_is); (case b3_q => exact rfl); (case b4_q => exact rfl); (case b5_q => exact rfl))); (case hkd => exact rfl); (case hnd => decide +kernel); (case ha => exact rfl); (case hb => exact rfl); (case hc => exact rfl))
  trivial
/-- the class Misused as it lies -/
noncomputable abbrev mBm : List Value := [.ref 31, .type "Exception", .type "BaseException", .type "object"]
theorem misused_cls {P : Params} {h : Heap} (X : (Np.hd.heap_1 P).In h) : ∃ nm q bs hdct sn sub ab col dd k0 k1 k2 k3 k5, h.get? 44 = some (excClassObj nm q 44 43 bs mBm hdct sn sub ab col dd k0 k1 k2 k3 k5 "Exception.__new__") := by
  have h44 := X 44 _ (by with_unfolding_all rfl)
  exact ⟨_, _, _, _, _, _, _, _, _, _, _, _, _, _, h44⟩
noncomputable abbrev excObj (t : Addr) : Obj := { cls := .ref 44, data := .fields #[.ref t, .none, .none, .none, .bool false, .none] }
section
variable {prog : Program} {w : World} {A : Around} {R : Result → Shared → Prop} {h : Heap} {g : Array GenState} {d : Drawn} {t : Nat} {os : OsState}
theorem exc_new {v : Value} (X : (Np.hd.heap_1 w.params).In h)
    (hq : R (.ok (.ret (.ref (h.objs.size + 1)))) ⟨(h.push { cls := .type "tuple", data := .seq #[v] }).push (excObj h.objs.size), g, d, t, os⟩) :
    codeAny (model prog w) A (.call (.builtin "Exception.__new__") ⟨[.ref 44, v], []⟩) R ⟨h, g, d, t, os⟩ := by
  obtain ⟨nm, q, bs, hdct, sn, sub, ab, col, dd, k0, k1, k2, k3, k5, hC⟩ := misused_cls X
  have F := PySem.F.excBase_Exception
  have hcB : (Value.ref 44 :: mBm).contains (.type "Exception") = true := by decide +kernel
  have hcA : (Value.ref 44 :: mBm).contains (.type "AttributeError") = false := by decide +kernel
  have hcN : (Value.ref 44 :: mBm).contains (.type "NameError") = false := by decide +kernel
  refine codeAny_call_builtin_code (Code.quiet_builtin _ F.quiet) ?_
  have hstar := F.noStar
  simp only [checkBuiltinCall, F.newKind, F.newSplit, F.newRow]
  repeat (first | refine wpAny_loadPart_at hC ?_ | (refine wpAny_isSubtype_exc hC ?_; rw [hcB]) | refine wpAny_staticBase_exc hC ?_ | refine wpAny_madeBy_exc hC ?_ | simp only [bne_self_eq_false, Bool.false_eq_true, if_false] | wp_step)
  have hends := F.ends
  refine codeAny_builtinAt F.entry ?_
  unfold Builtin.«BaseException.__new__»
  refine PySem.wpAt_bind ?_
  show PySem.wpAt _ _ _ (stack >>= _) _ _ _
  refine PySem.wpAt_bind (PySem.wpAt_stack fun p below => PySem.wpAt_of_wpAny ?_)
  wp_walk
  refine PySem.wpAt_of_wpAny ?_
  rw [F.owner]
  repeat (first | with_reducible refine wpAny_madeHere_exc F.canon hC ?_ | with_reducible refine wpAny_loadPart_at hC ?_ | (with_reducible refine wpAny_isSubtype_exc hC ?_; first | rw [hcB] | rw [hcA] | rw [hcN]) | wp_step)
  show R _ _
  rw [Heap.size_push]
  exact hq
end
section
variable {prog : Program} {w : World} {A : Around} {R : Result → Shared → Prop} {h : Heap} {g : Array GenState} {d : Drawn} {t : Nat} {os : OsState}
/-- Misused(v): a new object, then its __init__ -/
theorem exc_make {v : Value} (X : (Np.hd.heap_1 w.params).In h)
    (hq : ∀ h' e t0, e = h.objs.size + 1 → t0 = h.objs.size → (∀ b o, h.get? b = some o → h'.get? b = some o) → h'.get? e = some (excObj t0) → h'.get? t0 = some { cls := .type "tuple", data := .seq #[v] } →
      codeAny (model prog w) (A.under (.builtin "type.__call__" ⟨[.ref 44, v], []⟩)) (.call (.ref 28) ⟨[.ref e, v], []⟩) (InitBack e R) ⟨h', g, d, t, os⟩) :
    codeAny (model prog w) A (.call (.ref 44) ⟨[v], []⟩) R ⟨h, g, d, t, os⟩ := by
  obtain ⟨nm, q, bs, hdct, sn, sub, ab, col, dd, k0, k1, k2, k3, k5, hC⟩ := misused_cls X
  have hi : Looks (model prog w) h (typeLookup (.ref 44) "__init__") (some (.ref 28)) := looks_findIn X (by with_unfolding_all rfl)
  have hf : ∀ self, Looks (model prog w) h (bindSpecial (.ref 28) self) (.ref 28, [self]) := fun self => bind_fn X self (by with_unfolding_all rfl)
  have f1 := tc_lookup
  have f2 := tc_bind (.ref 44)
  have hT : (⟨h, g, d, t, os⟩ : Shared).TypeIs (.ref 44) "type" := ⟨_, hC, rfl⟩
  refine codeAny_of_tree ?_
  show wpAny _ _ (callAny (.ref 44) _) _ _ _
  repeat (any_goals (first | assumption | with_reducible refine wpAny_loadPart_at hC ?_ | wp_step))
  refine ⟨rfl, ?_⟩
  refine codeAny_call_builtin_at (Code.quiet_builtin _ (by decide +kernel)) entry_typeCall (wpAny_check_type_call_sub hC ?_)
  repeat (first | with_reducible refine wpAny_loadPart_at hC ?_ | with_reducible refine wpAny_madeBy_exc hC ?_ | wp_step)
  refine exc_new X ?_
  show wpAny _ _ _ _ _ _
  have k : ∀ b o, h.get? b = some o → ((h.push { cls := .type "tuple", data := .seq #[v] }).push (excObj h.objs.size)).get? b = some o := fun b o e => Heap.get?_push_of_some _ (Heap.get?_push_of_some _ e)
  have hx : ((h.push { cls := .type "tuple", data := .seq #[v] }).push (excObj h.objs.size)).get? (h.objs.size + 1) = some (excObj h.objs.size) := by heap_get
  have ht : ((h.push { cls := .type "tuple", data := .seq #[v] }).push (excObj h.objs.size)).get? h.objs.size = some { cls := .type "tuple", data := .seq #[v] } := Heap.get?_push_of_some _ (Heap.get?_push_size _ rfl)
  have hC₁ := k _ _ hC
  have hcC : (Value.ref 44 :: mBm).contains (.ref 44) = true := by decide +kernel
  have i1 := hi.keeps k
  have b1 := (hf (.ref (h.objs.size + 1))).keeps k
  unfold isInstance
  repeat (first | with_reducible refine wpAny_loadPart_at hx ?_ | (with_reducible refine wpAny_isSubtype_exc hC₁ ?_; rw [hcC]) | with_reducible refine wpAny_call ?_ | lk | wp_step)
  refine codeAny_mono (hq _ _ _ rfl rfl k hx ht) fun r s' z => ?_
  rcases r with e | (v | _ | _ | _) <;> first | exact z | exact z.elim | skip
  obtain ⟨rfl, z⟩ := z
  exact wpAny_pure (wpAny_pure z)
end
end

section
theorem wNpX20 : True := by
  k_with_none
  (k_with "np_omega" => (first
      | (with_reducible assumption)
      | omega -splitDisjunctions
      | ((with_reducible show @Ne Nat _ _); with_reducible refine Ne.symm ?_; with_reducible assumption)
      | (refine Nat.le_antisymm ?_ ?_ <;> omega -splitDisjunctions)
      | (refine Int.le_antisymm ?_ ?_ <;> omega -splitDisjunctions)
      | omega +splitDisjunctions))
  (k_with "np_mm" => (first
      | (simp (disch := (first | assumption | exact Int.le_of_lt (by assumption) | exact Int.not_lt.mp (by assumption) | omega)) only [Int.max_eq_right, Int.max_eq_left, Int.min_eq_right, Int.min_eq_left]; done)
      | omega))
  (k_with "np_lt" => (k_dflt (repeat (intro _)); k_dflt (refine Got.mk ?_)))
  (k_with "np_ne" => (first
      | (with_reducible refine Nat.ne_of_lt ?_; with_reducible assumption)
      | (with_reducible refine Nat.ne_of_gt ?_; with_reducible assumption)
      | (with_reducible assumption)
      | (with_reducible refine Ne.symm ?_; with_reducible assumption)
      | (refine neN ?_; (try dsimp only); omega)))
  (k_with "np_mem" => (first
      | ((repeat' (with_reducible first | exact List.Mem.head _ | refine List.Mem.tail _ ?_)); done)
      | (with_reducible assumption)
      | assumption))
  (k_with "ite" => (k_closed; k_dflt (first | refine ite_pos (by decide) ?_ | refine ite_neg (by decide) ?_)))
  (k_with "callWith ref" => (k_here; k_dflt (first | (refine' callWith_K ?k1_q ?k2_q ?_; (case k1_q => k_asm); (case k2_q => k_is); k_whole) | (refine' callWith_K0 ?k1_q ?k2_q ?_; (case k1_q => exact Frag.In.keeps (by k_asm) (Fr.keep (by k_asm))); (case k2_q => k_is); k_whole))))
  (k_with "CompEnd" => (with_reducible refine haltIt ?_))
  (k_with "CompSrc" => (with_reducible refine haltIt ?_))
  (k_with "CompSrcT" => (with_reducible refine haltIt ?_))
  (k_with "np_inst" => (first
      | (refine' InstAt.of_base ?F_q ?h1_q ?h2_q; (case F_q => k_asm); (case h1_q => k_asm); (case h2_q => k_asm))
      | (refine' InstAt.of_mixed ?F_q ?h1_q ?N_q ?h2_q; (case F_q => k_asm); (case h1_q => k_asm); (case N_q => k_asm); (case h2_q => k_mem))))
  (k_with "execs cons" => (k_here; (try (with_reducible refine gentok ?_; intro _)); (with_reducible refine wpAny_execs_cons ?_); (try dsimp only); (try k_fold)))
  (k_with "execs nil" => (k_here; with_reducible refine gentok ?_; intro _))
  (k_with "np_handed" => (exact handed_opt _ _))
  (k_with "np_enter" => (case ho => k_dflt k_is); (case hcd => k_dflt k_is); (try (case hr => (first | omega | (dsimp only; omega)))); (case hbind => first | exact BindsTo.of_eq rfl | (refine' binds_K ?bx_q ?b1_q ?b2_q ?b3_q ?b4_q ?b5_q; (case bx_q => assumption); (case b1_q => exact rfl); (case b2_q => k_dflt k_is); (case b3_q => exact rfl); (case b4_q => exact rfl); (case b5_q => exact rfl))); (case hloc => exact locs rfl); (case ha => exact rfl); (case hb => exact rfl); (case hc => exact rfl); (case hd => decide))
  (k_with "np_enterX" => (case ho => k_dflt k_is); (case hcd => k_dflt k_is); (try (case hr => (first | omega | (dsimp only; omega)))); (case hbind => first | exact BindsTo.of_eq rfl | (refine' binds_K ?bx_q ?b1_q ?b2_q ?b3_q ?b4_q ?b5_q; (case bx_q => assumption); (case b1_q => exact rfl); (case b2_q => k_dflt k_is); (case b3_q => exact rfl); (case b4_q => exact rfl); (case b5_q => exact rfl))); (case hkd => exact rfl); (case hnd => decide +kernel); (case ha => exact rfl); (case hb => exact rfl); (case hc => exact rfl))
  trivial
section
open Builtin Builtin.ObjectAttr
variable {prog : Program} {w : World} {A : Around} {E : Value → Shared → Prop} {s : Shared}
theorem exc_osa {e t : Addr} {v : Value} {tk : Tok} {R : Result → Shared → Prop} (X : (Np.hd.heap_1 w.params).In s.heap) (he : s.heap.get? e = some (excObj t))
    (h : ∀ h' d x tk tk2, KeepBut [e] s.heap h' → s.heap.get? d = none → h'.get? e = some { excObj t with dict := some d } → h'.get? d = some (dictOf [⟨x, .str (Str.ofString "why") tk, v⟩] 1) → R (.ok (.ret .none)) { s with heap := h', toks := tk2 }) :
    codeAny (model prog w) A (.call (.builtin "object.__setattr__") ⟨[.ref e, .str (Str.ofString "why") tk, v], []⟩) R s := by
  have I : InstAt s.heap e (excObj t) 44 none := ⟨he, rfl, rfl, trivial⟩
  have SF := PySem.F.store_object
  have sub : Looks (model prog w) s.heap (isInstance (.ref e) (.type "object")) true := I.type.andThen (looks_mroIn X (by with_unfolding_all rfl))
  obtain ⟨cd, hc, hd'⟩ := any_some (show (clsIn (Np.hd.heap_1 w.params) 44).any (·.hasDict) = true by with_unfolding_all rfl)
  have hmro : cd.mro = .ref 44 :: mBm := by
    have : (clsIn (Np.hd.heap_1 w.params) 44).map (·.mro) = some (.ref 44 :: mBm) := by with_unfolding_all rfl
    rw [hc] at this; exact Option.some.inj this
  have hm : Looks (model prog w) s.heap (mroOf (.ref 44)) cd.mro := (looks_clsIn X hc).andThen .now
  have ha : findIn (Np.hd.heap_1 w.params) (.ref 44) (Str.ofString "why") = some none := by with_unfolding_all rfl
  refine codeAny_call_builtin SF.slot.plain SF.entry (@check_slot (model prog w) _ _ s "object.__setattr__" "object" "__setattr__" (.ref e) [.str (Str.ofString "why") tk, v] [] _ SF.kind SF.split sub (SF.args (.ref e) (.str (Str.ofString "why") tk) v) ?_)
  rw [osa_eq, refuse_eq]
  refine wpAny_bind (wpAny_bind (I.type.here (wpAny_bind (hm.here ?_))))
  rw [hmro, refuseLoop_ref, refuseLoop_ref, PySem.F.store_Exception.passes]
  refine wpAny_pure (wpAny_bind (I.type.here (wpAny_bind ((looks_findIn X ha).here (wpAny_bind (wpAny_pure ?_))))))
  have hes : e ≠ s.heap.objs.size := Nat.ne_of_lt (Heap.lt_size he)
  have e1 : (s.heap.push { cls := .type "dict", data := .dict #[] }).get? e = some (excObj t) := Heap.get?_push_of_some _ he
  refine wpAny_bind (wpAny_pure (wpAny_bind (wpAny_bind (wpAny_loadPart he (wpAny_bind ((looks_clsIn X hc).here ?_))))))
  rw [hd']
  refine wpAny_bind (wpAny_alloc' ?_)
  refine wpAny_bind (wpAny_update' e1 ?_)
  refine wpAny_pure ?_
  show wpAny _ _ (Builtin.ObjectAttr.storeInDict s.heap.objs.size (.str (Str.ofString "why") tk) (Str.ofString "why") v) _ _ _
  unfold Builtin.ObjectAttr.storeInDict Builtin.ObjectAttr.newKeyGuard
  refine wpAny_bind (wpAny_pure (wpAny_bind ?_))
  have hgd : ((s.heap.push { cls := .type "dict", data := .dict #[] }).update e fun o => { cls := o.cls, dict := some s.heap.objs.size, data := o.data, slots := o.slots }).get? s.heap.objs.size
      = some { cls := .type "dict", data := .dict #[] } := (Heap.get?_update_ne _ _ _ _ hes.symm).trans (Heap.get?_push_at rfl rfl)
  have hge : ((s.heap.push { cls := .type "dict", data := .dict #[] }).update e fun o => { cls := o.cls, dict := some s.heap.objs.size, data := o.data, slots := o.slots }).get? e
      = some { excObj t with dict := some s.heap.objs.size } := Heap.get?_update_self _ e1 rfl
  unfold nsSet
  refine wpAny_bind (wpAny_bind (wpAny_askSetting (wpAny_pure (wpAny_bind (wpAny_mkText (wpAny_bind (wpAny_loadPart hgd ?_)))))))
  dsimp only
  rw [aRefKeyMayBeTheName_at, show (!(#[] : Array DictEntry).any (·.key.isStr (Str.ofString "why")) && (#[] : Array DictEntry).any (·.refKey)) = false by simp]
  refine wpAny_updatePart hgd ?_
  have D' : ∀ (x : Int) (k : Value), (((s.heap.push { cls := .type "dict", data := .dict #[] }).update e fun o => { cls := o.cls, dict := some s.heap.objs.size, data := o.data, slots := o.slots }).update s.heap.objs.size (Obj.putName (Str.ofString "why") x k v)).get? s.heap.objs.size = some (dictOf [⟨x, k, v⟩] 1) := fun x k =>
    Heap.get?_update_self _ hgd rfl
  refine wpAny_bind (wpAny_lookBehind (D' _ _) (pastItsLine_dict (by rw [sizeLine_eq]; exact Nat.le_of_ble_eq_true rfl)) ?_)
  refine wpAny_pure (h _ s.heap.objs.size _ _ _ (fun b o hb q => ?_) (Heap.get?_none_of_le (Nat.le_refl _)) ?_ (D' _ _))
  · rw [Heap.get?_update_other _ _ (fun z : s.heap.objs.size = b => Nat.ne_of_gt (Heap.lt_size q) z), Heap.get?_update_other _ _ (fun z : e = b => hb (by rw [z]; exact .head _))]
    exact Heap.get?_push_of_some _ q
  · rw [Heap.get?_update_other _ _ hes.symm]
    exact hge
theorem exc_set {e t : Addr} {v : Value} {Q : Unit → Shared → Prop} (X : (Np.hd.heap_1 w.params).In s.heap) (he : s.heap.get? e = some (excObj t))
    (h : ∀ h' d x tk tk2, KeepBut [e] s.heap h' → s.heap.get? d = none → h'.get? e = some { excObj t with dict := some d } → h'.get? d = some (dictOf [⟨x, .str (Str.ofString "why") tk, v⟩] 1) → Q () { s with heap := h', toks := tk2 }) :
    wpAny (model prog w) A (setAttr (.ref e) (Str.ofString "why") v) Q E s :=
  set_plain (od := none) X ⟨he, rfl, rfl, trivial⟩ (by with_unfolding_all rfl) (exc_osa (s := { s with toks := s.toks + 1 }) X he h)
end
section
variable {prog : Program} {w : World} {A : Around} {E : Value → Shared → Prop} {s : Shared}
theorem exc_init {e t0 : Addr} {v : Value} {Q : Value → Shared → Prop} (X : (Np.hd.heap_1 w.params).In s.heap) (he : s.heap.get? e = some (excObj t0))
    (hq : ∀ h' t1, KeepBut [e] s.heap h' → s.heap.get? t1 = none → h'.get? e = some (excObj t1) → h'.get? t1 = some { cls := .type "tuple", data := .seq #[v] } → Q .none { s with heap := h' }) :
    wpAny (model prog w) A (call (.builtin "Exception.__init__") [.ref e, v]) Q E s := by
  obtain ⟨h, g, d, t, os⟩ := s
  obtain ⟨nm, q, bs, hdct, sn, sub, ab, col, dd, k0, k1, k2, k3, k5, hC⟩ := misused_cls X
  have F := PySem.F.excBase_Exception
  dsimp only at he hq hC
  have hcB : (Value.ref 44 :: mBm).contains (.type "Exception") = true := by decide +kernel
  have hshort := F.noStar
  refine wpAny_call (codeAny_call_builtin F.init.plain F.initEntry ?_)
  simp only [checkBuiltinCall, F.initKind, F.initSplit, F.initRow]
  repeat (first | with_reducible refine wpAny_loadPart_at he ?_ | with_reducible refine wpAny_loadPart_at hC ?_ | (with_reducible refine wpAny_isSubtype_exc hC ?_; rw [hcB]) | wp_step)
  have hes : e ≠ h.objs.size := Nat.ne_of_lt (Heap.lt_size he)
  refine hq _ h.objs.size (fun b o hb q => ?_) (Heap.get?_none_of_le (Nat.le_refl _)) ?_ ?_
  · rw [Heap.get?_update_other _ _ (fun z : e = b => hb (by rw [z]; exact .head _))]
    exact Heap.get?_push_of_some _ q
  · rw [Heap.get?_update_self _ (Heap.get?_push_of_some _ he) rfl]; rfl
  · rw [Heap.get?_update_other _ _ hes]
    exact Heap.get?_push_size _ rfl
end
section
variable {M : Model} {A : Around} {E : Value → Shared → Prop} {s : Shared} {env : Env} {outer : List Env} {L e : Addr} {dd : Option Addr} {B base : Heap}
/-- an exception of the text's own class in flight over the frames l -/
structure Fl (B : Heap) (l : List Env) (e : Addr) (dd : Option Addr) (h : Heap) : Prop where
  stays : B.StaysIn h
  new : B.get? e = none
  frames : h.FunFrames B l
  td : TD (.ref 44) dd h B e .none
theorem leaves_first {Q : Unit → Shared → Prop} {oe : Obj} {vs : Array Value} (hfr : A.frames = some (env :: outer)) (hl : s.heap.FunFrames base (env :: outer)) (hf : env.frame = some L)
    (he : s.heap.get? e = some oe) (hc : oe.cls = .ref 44) (hd : oe.data = .fields vs) (h1 : vs[1]? = some .none)
    (h : ∀ h', Fl (hideAll s.heap (e :: (env :: outer).filterMap (·.frame))) outer e oe.dict h' → s.heap.UpToSlots h' → Q () { s with heap := h' }) : wpAny M A (leaving env (.ref e)) Q E s := by
  have hin : ∀ env' ∈ (env :: outer), ∀ a, env'.frame = some a → a ∈ e :: (env :: outer).filterMap (·.frame) := fun env' he a ha => .tail _ (List.mem_filterMap.mpr ⟨env', he, ha⟩)
  unfold leaving
  refine wpAny_bind (noteFrame_firstD hfr (funFrames_hide hl hin) hf he (fun b o q => of_hideAll _ q) (hideAll_none _ (.head _)) hd h1 fun h1 k1 k2 k3 k4 => ?_)
  refine setFlightD k1 k2 k3 fun h2 j1 j2 j3 j4 => h h2 ⟨j1, hideAll_none _ (.head _), j2.2.2, hc ▸ j3⟩ (k4.trans j4)
theorem leaves_on {Q : Unit → Shared → Prop} (hfr : A.frames = some (env :: outer)) (hf : env.frame = some L) (F : Fl B (env :: outer) e dd s.heap)
    (h : ∀ h', Fl B outer e dd h' → s.heap.UpToSlots h' → Q () { s with heap := h' }) : wpAny M A (leaving env (.ref e)) Q E s := by
  obtain ⟨f1, f2, f3, f4⟩ := F
  unfold leaving
  refine wpAny_bind (noteFrame_onD hfr f3 hf f4 f1 f2 fun h1 k1 k2 k3 k4 => ?_)
  refine setFlightD k1 k2 k3 fun h2 j1 j2 j3 j4 => h h2 ⟨j1, f2, j2.2.2, j3⟩ (k4.trans j4)
end
section
variable {prog : Program} {w : World} {A : Around} {E : Value → Shared → Prop} {s : Shared} {env : Env}
theorem raise_own {x : Sem Value} {Q : Flow → Shared → Prop} (hh : A.handled = none)
    (h : wpAny (model prog w) A x (fun v s₁ => ∃ e t d, v = .ref e ∧ (Np.hd.heap_1 w.params).In s₁.heap ∧ s₁.heap.get? e = some { excObj t with dict := some d } ∧ E (.ref e) s₁) E s) :
    wpAny (model prog w) A (raiseStmt env (some x) none) Q E s := by
  have hcB : (Value.ref 44 :: mBm).contains (.type "BaseException") = true := by decide +kernel
  unfold raiseStmt
  refine wpAny_bind (wpAny_mono h (fun v s₁ h₁ => ?_) fun _ _ x => x)
  obtain ⟨e, t, dd, rfl, X, he, hE⟩ := h₁
  obtain ⟨nm, q, bs, hdct, sn, sub, ab, col, dd, k0, k1, k2, k3, k5, hC⟩ := misused_cls X
  obtain ⟨hp, g, d, tk, os⟩ := s₁
  dsimp only at he hC
  repeat (first | with_reducible refine wpAny_loadPart_at he ?_ | with_reducible refine wpAny_loadPart_at hC ?_ | (with_reducible refine wpAny_isSubtype_exc hC ?_; rw [hcB]) | wp_step)
  exact wpAny_raiseNew_none hh hE
theorem Raise_own {x : Expr} {pos : Pos} {Q : Flow → Shared → Prop} (hh : A.handled = none)
    (h : wpAny (model prog w) A (eval x env) (fun v s₁ => ∃ e t d, v = .ref e ∧ (Np.hd.heap_1 w.params).In s₁.heap ∧ s₁.heap.get? e = some { excObj t with dict := some d } ∧ E (.ref e) s₁) E s) :
    wpAny (model prog w) A (exec (.Raise (some x) none pos) env) Q E s := by
  rw [arm_exec_Raise]
  first
    | exact wpAny_bind (wpAny_standAt (raise_own hh (wpAny_bind (wpAny_mono h (fun v s₃ h₃ => wpAny_bind (wpAny_standAt (wpAny_pure h₃))) fun _ _ x => x))))
    | (simp only [evalOpt, Option.map]; exact wpAny_bind (wpAny_standAt (raise_own hh (wpAny_bind (wpAny_mono h (fun v s₃ h₃ => wpAny_bind (wpAny_standAt (wpAny_pure h₃))) fun _ _ x => x)))))
end
end

section
theorem offNpX3 : True := by w_top off; trivial
theorem wNpX30 : True := by
  k_with_none
  (k_with "np_omega" => (first
      | (with_reducible assumption)
      | omega -splitDisjunctions
      | ((with_reducible show @Ne Nat _ _); with_reducible refine Ne.symm ?_; with_reducible assumption)
      | (refine Nat.le_antisymm ?_ ?_ <;> omega -splitDisjunctions)
      | (refine Int.le_antisymm ?_ ?_ <;> omega -splitDisjunctions)
      | omega +splitDisjunctions))
  (k_with "np_mm" => (first
      | (simp (disch := (first | assumption | exact Int.le_of_lt (by assumption) | exact Int.not_lt.mp (by assumption) | omega)) only [Int.max_eq_right, Int.max_eq_left, Int.min_eq_right, Int.min_eq_left]; done)
      | omega))
  (k_with "np_lt" => (k_dflt (repeat (intro _)); k_dflt (refine Got.mk ?_)))
  (k_with "np_ne" => (first
      | (with_reducible refine Nat.ne_of_lt ?_; with_reducible assumption)
      | (with_reducible refine Nat.ne_of_gt ?_; with_reducible assumption)
      | (with_reducible assumption)
      | (with_reducible refine Ne.symm ?_; with_reducible assumption)
      | (refine neN ?_; (try dsimp only); omega)))
  (k_with "np_mem" => (first
      | ((repeat' (with_reducible first | exact List.Mem.head _ | refine List.Mem.tail _ ?_)); done)
      | (with_reducible assumption)
      | assumption))
  (k_with "ite" => (k_closed; k_dflt (first | refine ite_pos (by decide) ?_ | refine ite_neg (by decide) ?_)))
  (k_with "callWith ref" => (k_here; k_dflt (first | (refine' callWith_K ?k1_q ?k2_q ?_; (case k1_q => k_asm); (case k2_q => k_is); k_whole) | (refine' callWith_K0 ?k1_q ?k2_q ?_; (case k1_q => exact Frag.In.keeps (by k_asm) (Fr.keep (by k_asm))); (case k2_q => k_is); k_whole))))
  (k_with "CompEnd" => (with_reducible refine haltIt ?_))
  (k_with "CompSrc" => (with_reducible refine haltIt ?_))
  (k_with "CompSrcT" => (with_reducible refine haltIt ?_))
  (k_with "np_inst" => (first
      | (refine' InstAt.of_base ?F_q ?h1_q ?h2_q; (case F_q => k_asm); (case h1_q => k_asm); (case h2_q => k_asm))
      | (refine' InstAt.of_mixed ?F_q ?h1_q ?N_q ?h2_q; (case F_q => k_asm); (case h1_q => k_asm); (case N_q => k_asm); (case h2_q => k_mem))))
  (k_with "execs cons" => (k_here; (try (with_reducible refine gentok ?_; intro _)); (with_reducible refine wpAny_execs_cons ?_); (try dsimp only); (try k_fold)))
  (k_with "execs nil" => (k_here; with_reducible refine gentok ?_; intro _))
  (k_with "np_handed" => (exact handed_opt _ _))
  (k_with "np_enter" => (case ho => k_dflt k_is); (case hcd => k_dflt k_is); (try (case hr => (first | omega | (dsimp only; omega)))); (case hbind => first | exact BindsTo.of_eq rfl | (refine' binds_K ?bx_q ?b1_q ?b2_q ?b3_q ?b4_q ?b5_q; (case bx_q => assumption); (case b1_q => exact rfl); (case b2_q => k_dflt k_is); (case b3_q => exact rfl); (case b4_q => exact rfl); (case b5_q => exact rfl))); (case hloc => exact locs rfl); (case ha => exact rfl); (case hb => exact rfl); (case hc => exact rfl); (case hd => decide))
  (k_with "np_enterX" => (case ho => k_dflt k_is); (case hcd => k_dflt k_is); (try (case hr => (first | omega | (dsimp only; omega)))); (case hbind => first | exact BindsTo.of_eq rfl | (refine' binds_K ?bx_q ?b1_q ?b2_q ?b3_q ?b4_q ?b5_q; (case bx_q => assumption); (case b1_q => exact rfl); (case b2_q => k_dflt k_is); (case b3_q => exact rfl); (case b4_q => exact rfl); (case b5_q => exact rfl))); (case hkd => exact rfl); (case hnd => decide +kernel); (case ha => exact rfl); (case hb => exact rfl); (case hc => exact rfl))
  trivial
theorem meta_exc : typeOf (.type "Exception") = pure (.type "type") := by first | rfl | kernel_rfl
theorem wNpX32 : True := by
  (k_with "getMethod type:Exception" => (k_here; refine' method_type (T := "Exception") ?F_q ?X_q ?m_q ?s_q ?e_q ?h_q ?_; (case s_q => decide +kernel); (case F_q => k_asm); (case X_q => k_asm); (case m_q => exact meta_exc); (case e_q => k_dflt k_is); (case h_q => exact rfl)))
  trivial
section
variable {w : World} {A : Around} {s : Shared} {h₀ : Heap} {R : Result → Shared → Prop} {x d : Addr} {σ : St}
/-- the exception's own dict -/
noncomputable def WhyAt (h : Heap) (d : Addr) (v : Value) : Prop := ∃ x tk, h.get? d = some (dictOf [⟨x, .str (Str.ofString "why") tk, v⟩] 1)
theorem fault_init {e t0 : Addr} {why : Str} {tk : Tok} (G : Gr w h₀) (hk : Up h₀ s.heap) (hA : A.handled = none) (hd : A.depth + 4 < recursionLimit)
    (he : s.heap.get? e = some (excObj t0)) (hf : h₀.get? e = none)
    (ret : ∀ h' tk' t d, KeepBut [e] s.heap h' → h'.get? e = some { excObj t with dict := some d } → s.heap.get? d = none → WhyAt h' d (.str why tk) → R (.ok (.ret .none)) { s with heap := h', toks := tk' }) :
    codeAny (model Pg w) A (.call (.ref 28) ⟨[.ref e, .str why tk], []⟩) R s := by
  obtain ⟨ah, ad, af, ag, au⟩ := A
  obtain rfl : ah = none := hA
  dsimp only at hd
  refine' enter_code (D := [(e, excObj t0)]) (binds := [(Str.ofString "self", .ref e), (Str.ofString "why", .str why tk)]) G hk (List.forall_mem_singleton.mpr ⟨he, hf⟩) ?ho ?hcd ?hr ?hbind ?hloc ?_ ?ha ?hb ?hc ?hd
  walk_at "np_enter"
  intro g' L' h' mean mg mb F' N' X' T' G' kG'
  try dsimp only
  k_unmd
  k_fold
  k_steps
  rename Fr _ _ _ _ => cF; rename News _ _ _ _ => cN
  refine exc_init (t0 := t0) (G'.X.keeps cF.keep) (cN.get (.head _)) fun h1 t1 K1 n1 he1 ht1 => ?_
  have F1 := fr_but1 (d := e) (o := _) cF cN (by k_mem) K1
  have N1 := news_but_add cF cN K1 (by k_upd) he1 n1 ht1
  have ne1 := neAll_of cN n1
  (refine neTo ne1 ?_; clear ne1; walk_at "np_lt")
  clear cF cN K1 n1 he1 ht1
  try dsimp only
  k_steps
  rename Fr _ _ _ _ => cF; rename News _ _ _ _ => cN
  refine exc_set (t := t1) (G'.X.keeps cF.keep) (cN.get (by k_mem)) fun h2 d2 x2 tk2 tk3 K2 n2 he2 hd2 => ?_
  have F2 := fr_but1 (d := e) (o := _) cF cN (by k_mem) K2
  have N2 := news_but_add cF cN K2 (by k_upd) he2 n2 hd2
  have ne2 := neAll_of cN n2
  simp only [NeAll, and_true] at ne2
  clear cF cN K2 n2 he2 hd2
  try dsimp only
  k_steps
  rename Fr _ _ _ _ => kF; rename News _ _ _ _ => kN
  refine ret _ _ t1 d2 (keepBut_news (M := [e]) kG' kF kN (List.forall_mem_singleton.mpr he) (List.forall_mem_singleton.mpr (.inl (.head _)))) (kN.get (by k_mem)) (none_but kG' kN (.head _) (by simpa using ne2.2.symm)) ⟨_, _, kN.get (.head _)⟩
end
section
variable {w : World} {A : Around} {s : Shared} {h₀ : Heap} {R : Result → Shared → Prop}
/-- Misused(why) -/
theorem fault_make {why : Str} {tk : Tok} (G : Gr w h₀) (hk : Up h₀ s.heap) (hA : A.handled = none) (hd : A.depth + 5 < recursionLimit)
    (ret : ∀ h' tk' e t d, Up s.heap h' → s.heap.get? e = none → s.heap.get? d = none → h'.get? e = some { excObj t with dict := some d } → WhyAt h' d (.str why tk) → R (.ok (.ret (.ref e))) { s with heap := h', toks := tk' }) :
    codeAny (model Pg w) A (.call (.ref 44) ⟨[.str why tk], []⟩) R s := by
  obtain ⟨hp, g, d, t, os⟩ := s
  refine exc_make (G.X.keeps hk) fun h' e t0 he ht k he2 ht2 => ?_
  dsimp only at hk ret
  have hen : hp.get? e = none := Heap.get?_none_of_le (by rw [he]; exact Nat.le_succ _)
  have hen0 : h₀.get? e = none := by
    cases q : h₀.get? e with
    | none => rfl
    | some o => have := hk _ _ q; rw [hen] at this; cases this
  refine fault_init (t0 := t0) (why := why) (tk := tk) G (fun b o q => k b o (hk b o q)) (show A.handled = none from hA) (by simp only [depth_under_make]; omega) he2 hen0 fun h2 tk2 t2 d2 K2 e2 n2 w2 => ?_
  have hup : Up hp h2 := fun b o q => K2 b o (by simp only [List.mem_singleton]; rintro rfl; rw [hen] at q; cases q) (k b o q)
  have hd2 : hp.get? d2 = none := by
    cases q : hp.get? d2 with
    | none => rfl
    | some o => have := k _ _ q; rw [n2] at this; cases this
  exact ⟨rfl, ret h2 tk2 e t2 d2 hup hen hd2 e2 w2⟩
end
end

section
theorem wNpX40 : True := by
  k_with_none
  (k_with "np_omega" => (first
      | (with_reducible assumption)
      | omega -splitDisjunctions
      | ((with_reducible show @Ne Nat _ _); with_reducible refine Ne.symm ?_; with_reducible assumption)
      | (refine Nat.le_antisymm ?_ ?_ <;> omega -splitDisjunctions)
      | (refine Int.le_antisymm ?_ ?_ <;> omega -splitDisjunctions)
      | omega +splitDisjunctions))
  (k_with "np_mm" => (first
      | (simp (disch := (first | assumption | exact Int.le_of_lt (by assumption) | exact Int.not_lt.mp (by assumption) | omega)) only [Int.max_eq_right, Int.max_eq_left, Int.min_eq_right, Int.min_eq_left]; done)
      | omega))
  (k_with "np_lt" => (k_dflt (repeat (intro _)); k_dflt (refine Got.mk ?_)))
  (k_with "np_ne" => (first
      | (with_reducible refine Nat.ne_of_lt ?_; with_reducible assumption)
      | (with_reducible refine Nat.ne_of_gt ?_; with_reducible assumption)
      | (with_reducible assumption)
      | (with_reducible refine Ne.symm ?_; with_reducible assumption)
      | (refine neN ?_; (try dsimp only); omega)))
  (k_with "np_mem" => (first
      | ((repeat' (with_reducible first | exact List.Mem.head _ | refine List.Mem.tail _ ?_)); done)
      | (with_reducible assumption)
      | assumption))
  (k_with "ite" => (k_closed; k_dflt (first | refine ite_pos (by decide) ?_ | refine ite_neg (by decide) ?_)))
  (k_with "callWith ref" => (k_here; k_dflt (first | (refine' callWith_K ?k1_q ?k2_q ?_; (case k1_q => k_asm); (case k2_q => k_is); k_whole) | (refine' callWith_K0 ?k1_q ?k2_q ?_; (case k1_q => exact Frag.In.keeps (by k_asm) (Fr.keep (by k_asm))); (case k2_q => k_is); k_whole))))
  (k_with "CompEnd" => (with_reducible refine haltIt ?_))
  (k_with "CompSrc" => (with_reducible refine haltIt ?_))
  (k_with "CompSrcT" => (with_reducible refine haltIt ?_))
  (k_with "np_inst" => (first
      | (refine' InstAt.of_base ?F_q ?h1_q ?h2_q; (case F_q => k_asm); (case h1_q => k_asm); (case h2_q => k_asm))
      | (refine' InstAt.of_mixed ?F_q ?h1_q ?N_q ?h2_q; (case F_q => k_asm); (case h1_q => k_asm); (case N_q => k_asm); (case h2_q => k_mem))))
  (k_with "execs cons" => (k_here; (try (with_reducible refine gentok ?_; intro _)); (with_reducible refine wpAny_execs_cons ?_); (try dsimp only); (try k_fold)))
  (k_with "execs nil" => (k_here; with_reducible refine gentok ?_; intro _))
  (k_with "np_handed" => (exact handed_opt _ _))
  (k_with "np_enter" => (case ho => k_dflt k_is); (case hcd => k_dflt k_is); (try (case hr => (first | omega | (dsimp only; omega)))); (case hbind => first | exact BindsTo.of_eq rfl | (refine' binds_K ?bx_q ?b1_q ?b2_q ?b3_q ?b4_q ?b5_q; (case bx_q => assumption); (case b1_q => exact rfl); (case b2_q => k_dflt k_is); (case b3_q => exact rfl); (case b4_q => exact rfl); (case b5_q => exact rfl))); (case hloc => exact locs rfl); (case ha => exact rfl); (case hb => exact rfl); (case hc => exact rfl); (case hd => decide))
  (k_with "np_enterX" => (case ho => k_dflt k_is); (case hcd => k_dflt k_is); (try (case hr => (first | omega | (dsimp only; omega)))); (case hbind => first | exact BindsTo.of_eq rfl | (refine' binds_K ?bx_q ?b1_q ?b2_q ?b3_q ?b4_q ?b5_q; (case bx_q => assumption); (case b1_q => exact rfl); (case b2_q => k_dflt k_is); (case b3_q => exact rfl); (case b4_q => exact rfl); (case b5_q => exact rfl))); (case hkd => exact rfl); (case hnd => decide +kernel); (case ha => exact rfl); (case hb => exact rfl); (case hc => exact rfl))
  trivial
section
variable {w : World} {A : Around} {s : Shared} {h₀ : Heap} {D : List (Addr × Obj)} {R : Result → Shared → Prop}
    {name qual : Str} {params : Arguments} {body : List Stmt} {scope : Scope} {dV kV doc pm cdv ct oc : Value} {an od : Option Addr} {osl : Array (Option Value)} {f : Addr} {args : Args} {binds : List (Str × Value)}
/-- a def is entered; exceptions may leave it -/
theorem enterE_code
    (G : Gr w h₀) (hk : ∀ b o, h₀.get? b = some o → s.heap.get? b = some o) (hD : ∀ q ∈ D, s.heap.get? q.1 = some q.2 ∧ h₀.get? q.1 = none)
    (ho : (Np.hd.heap_1 w.params).lookup f = some ⟨oc, od, .func (fnOf name qual params body scope dV kV doc pm an cdv ct), osl⟩) (hcd : codeIn (Np.hd.heap_1 w.params) cdv qual = true) (hroom : A.depth < recursionLimit)
    (hbind : BindsTo s (fnOf name qual params body scope dV kV doc pm an cdv ct) args binds) (hloc : ∀ y ∈ binds, scope.names.lookup y.1 = some .local)
    (h : ∀ g L' h₁ mean mg mb, Fr g L' h₁ (fun y => binds.reverse.lookup y) → News g L' h₁ D → (Np.hd.heap_1 w.params).In g → Top topProg LS mean mg mb g → Gr w g → GSub s.heap g (D.map (·.1)) →
      wpAny (model Pg w) (A.deeper (envOf qual scope L' f cdv)) (execs body (envOf qual scope L' f cdv))
        (fun fl s' => R (.ok (.ret (match fl with | .ret v => v | _ => .none))) s') (fun e s' => wpAny (model Pg w) (A.deeper (envOf qual scope L' f cdv)) (leaving (envOf qual scope L' f cdv) e) (fun _ s'' => R (.error e) s'') (fun _ _ => False) s')
        { s with heap := h₁, toks := s.toks + binds.length })
    (hco : scope.isCoroutine = false) (hgen : scope.isGenerator = false) (hks : scope.kind = .function)
    (hcell : ∀ x ∈ scope.names, x.2 ≠ .cell) : codeAny (model Pg w) A (.call (.ref f) args) R s := by
  obtain ⟨X₀, mean, mg, mb, T⟩ := G
  have st : h₀.StaysIn (hideAll s.heap (D.map (·.1))) := fun b o e => hideAll_get _ (hk b o e) fun q => by
    obtain ⟨p, hp, rfl⟩ := List.mem_map.mp q
    rw [(hD p hp).2] at e; cases e
  refine codeAny_call_def (fd := fnOf name qual params body scope dV kV doc pm an cdv ct) (body := body) (binds := binds) hroom (hk _ _ (X₀ _ _ ho)) rfl (T.nolimit.keeps hk) (codeRec_of (X₀.keeps hk) hcd) rfl hbind hcell hloc (fun h₁ hns hk₁ => ?_) hco hgen hks
  refine wpAny_mono (h _ s.heap.objs.size h₁ mean mg mb ⟨hns, fun b o e => hk₁ b o (of_hideAll _ e), Nat.le_of_eq (hideAll_size _ _)⟩
    (fun p hp => ⟨hk₁ _ _ (hD p hp).1, Nat.ne_of_lt (Heap.lt_size (hD p hp).1), hideAll_none _ (List.mem_map_of_mem hp)⟩) (X₀.keeps st) (T.keeps st) ⟨X₀.keeps st, mean, mg, mb, T.keeps st⟩ (fun b o e n => hideAll_get _ e n)) (fun fl s' hl => hl) fun e s' y => wpAny_mono y (fun _ _ z => z) fun _ _ z => z.elim
end
/-- an exception that left with the word why -/
noncomputable def Rz (s0 : Heap) (outer : List Env) (why : Str) (h' : Heap) (v : Value) : Prop :=
  ∃ B e d tk, v = .ref e ∧ Fl B outer e (some d) h' ∧ (∀ b o, s0.get? b = some o → b ∉ outer.filterMap (·.frame) → B.get? b = some o) ∧ WhyAt B d (.str why tk) ∧ s0.get? e = none ∧ s0.get? d = none ∧ s0.UpToSlots h'
theorem below_push {A : Around} {base s0 h : Heap} {outer : List Env} {env : Env} {L : Addr} {m : Str → Option Value} (K : Below A base outer s0) (u : Up s0 h) (ns : h.Ns L m) (hLn : s0.get? L = none) (hf : env.frame = some L) (hk : env.scope.kind = .function) : Below (A.deeper env) base (env :: outer) h := by
  have hnew : base.get? L = none := by
    cases hq : base.get? L with
    | none => rfl
    | some o => have := K.stays L o hq; rw [hLn] at this; cases this
  refine ⟨Around.frames_deeper K.stack, fun b o e => u b o (K.stays b o e), ?_⟩
  exact .cons (by rw [hk]; decide) hf ns hnew (K.frames.of_keeps fun b o e _ => ⟨o, u b o e, rfl⟩)
theorem outer_old {h B : Heap} {l : List Env} {b : Addr} (f : h.FunFrames B l) (hb : h.get? b = none) : b ∉ l.filterMap (·.frame) := fun hm => by
  obtain ⟨_, o, ho, _⟩ := f.mem hm
  rw [hb] at ho; cases ho
theorem none_old {a b : Heap} (u : Up a b) {x : Addr} (h : b.get? x = none) : a.get? x = none := by
  cases q : a.get? x with
  | none => rfl
  | some o => have := u _ _ q; rw [h] at this; cases this
theorem frame_new {s0 g h : Heap} {L : Addr} {m : Str → Option Value} {D : List (Addr × Obj)} (G : GSub s0 g (D.map (·.1))) (F : Fr g L h m) (hD : ∀ q ∈ D, q.1 ≠ L) : s0.get? L = none := by
  cases q : s0.get? L with
  | none => rfl
  | some o =>
    by_cases hm : L ∈ D.map (·.1)
    · obtain ⟨p, hp, e⟩ := List.mem_map.mp hm
      exact absurd e (hD p hp)
    · exact absurd (Nat.lt_of_lt_of_le (Heap.lt_size (G L o q hm)) F.above) (Nat.lt_irrefl _)
/-- the first frame is left -/
theorem rz_first {M : Model} {A : Around} {E : Value → Shared → Prop} {s : Shared} {base s0 : Heap} {outer : List Env} {L e d t : Addr} {m : Str → Option Value} {env : Env} {why : Str} {tk : Tok} {Q : Unit → Shared → Prop}
    (K : Below A base outer s0) (u0 : Up s0 s.heap) (ns : s.heap.Ns L m) (hLn : s0.get? L = none) (he : s.heap.get? e = some { excObj t with dict := some d }) (hd : WhyAt s.heap d (.str why tk)) (hen : s0.get? e = none) (hdn : s0.get? d = none) (hL : d ≠ L)
    (h : ∀ h', Rz s0 outer why h' (.ref e) → Q () { s with heap := h' }) (hf : env.frame = some L) (hk : env.scope.kind = .function) :
    wpAny M (A.deeper env) (leaving env (.ref e)) Q E s := by
  have K' := below_push K u0 ns hLn hf hk
  refine leaves_first (oe := { excObj t with dict := some d }) K'.stack K'.frames hf he rfl rfl rfl fun h' FL SL => h h' ⟨_, e, d, tk, rfl, FL, fun b o q hb => hideAll_get _ (u0 b o q) ?_, ?_, hen, hdn, ?_⟩
  · intro hm
    rcases List.mem_cons.mp hm with rfl | hm
    · rw [hen] at q; cases q
    · rw [List.filterMap_cons, hf] at hm
      rcases List.mem_cons.mp hm with rfl | hm
      · rw [hLn] at q; cases q
      · exact hb hm
  · obtain ⟨x, tk2, hd⟩ := hd
    refine ⟨x, tk2, hideAll_get _ hd fun hm => ?_⟩
    rcases List.mem_cons.mp hm with rfl | hm
    · rw [he] at hd; cases hd
    · rw [List.filterMap_cons, hf] at hm
      rcases List.mem_cons.mp hm with h | hm
      · exact hL h
      · exact outer_old K.frames hdn hm
  · exact (Heap.UpToSlots.of_keeps u0).trans SL
/-- a further frame is left -/
theorem rz_on {M : Model} {A : Around} {E : Value → Shared → Prop} {s : Shared} {base s0 s1 : Heap} {outer : List Env} {L : Addr} {env : Env} {why : Str} {v : Value} {Q : Unit → Shared → Prop}
    (K : Below A base outer s0) (u0 : Up s0 s1) (hLn : s0.get? L = none) (hf : env.frame = some L) (Z : Rz s1 (env :: outer) why s.heap v)
    (h : ∀ h', Rz s0 outer why h' v → Q () { s with heap := h' }) :
    wpAny M (A.deeper env) (leaving env v) Q E s := by
  obtain ⟨B, e, d, tk, rfl, FL, hB, hW, hen, hdn, SL⟩ := Z
  refine leaves_on (Around.frames_deeper K.stack) hf FL fun h' FL' SL' => h h' ⟨B, e, d, tk, rfl, FL', fun b o q hb => hB b o (u0 b o q) ?_, hW, none_old u0 hen, none_old u0 hdn, ?_⟩
  · intro hm
    rw [List.filterMap_cons, hf] at hm
    rcases List.mem_cons.mp hm with rfl | hm
    · rw [hLn] at q; cases q
    · exact hb hm
  · exact (Heap.UpToSlots.of_keeps u0).trans (SL.trans SL')
end

section
theorem offNpX5 : True := by w_top off; trivial
theorem wNpX50 : True := by
  k_with_none
  (k_with "np_omega" => (first
      | (with_reducible assumption)
      | omega -splitDisjunctions
      | ((with_reducible show @Ne Nat _ _); with_reducible refine Ne.symm ?_; with_reducible assumption)
      | (refine Nat.le_antisymm ?_ ?_ <;> omega -splitDisjunctions)
      | (refine Int.le_antisymm ?_ ?_ <;> omega -splitDisjunctions)
      | omega +splitDisjunctions))
  (k_with "np_mm" => (first
      | (simp (disch := (first | assumption | exact Int.le_of_lt (by assumption) | exact Int.not_lt.mp (by assumption) | omega)) only [Int.max_eq_right, Int.max_eq_left, Int.min_eq_right, Int.min_eq_left]; done)
      | omega))
  (k_with "np_lt" => (k_dflt (repeat (intro _)); k_dflt (refine Got.mk ?_)))
  (k_with "np_ne" => (first
      | (with_reducible refine Nat.ne_of_lt ?_; with_reducible assumption)
      | (with_reducible refine Nat.ne_of_gt ?_; with_reducible assumption)
      | (with_reducible assumption)
      | (with_reducible refine Ne.symm ?_; with_reducible assumption)
      | (refine neN ?_; (try dsimp only); omega)))
  (k_with "np_mem" => (first
      | ((repeat' (with_reducible first | exact List.Mem.head _ | refine List.Mem.tail _ ?_)); done)
      | (with_reducible assumption)
      | assumption))
  (k_with "ite" => (k_closed; k_dflt (first | refine ite_pos (by decide) ?_ | refine ite_neg (by decide) ?_)))
  (k_with "callWith ref" => (k_here; k_dflt (first | (refine' callWith_K ?k1_q ?k2_q ?_; (case k1_q => k_asm); (case k2_q => k_is); k_whole) | (refine' callWith_K0 ?k1_q ?k2_q ?_; (case k1_q => exact Frag.In.keeps (by k_asm) (Fr.keep (by k_asm))); (case k2_q => k_is); k_whole))))
  (k_with "CompEnd" => (with_reducible refine haltIt ?_))
  (k_with "CompSrc" => (with_reducible refine haltIt ?_))
  (k_with "CompSrcT" => (with_reducible refine haltIt ?_))
  (k_with "np_inst" => (first
      | (refine' InstAt.of_base ?F_q ?h1_q ?h2_q; (case F_q => k_asm); (case h1_q => k_asm); (case h2_q => k_asm))
      | (refine' InstAt.of_mixed ?F_q ?h1_q ?N_q ?h2_q; (case F_q => k_asm); (case h1_q => k_asm); (case N_q => k_asm); (case h2_q => k_mem))))
  (k_with "execs cons" => (k_here; (try (with_reducible refine gentok ?_; intro _)); (with_reducible refine wpAny_execs_cons ?_); (try dsimp only); (try k_fold)))
  (k_with "execs nil" => (k_here; with_reducible refine gentok ?_; intro _))
  (k_with "np_handed" => (exact handed_opt _ _))
  (k_with "np_enter" => (case ho => k_dflt k_is); (case hcd => k_dflt k_is); (try (case hr => (first | omega | (dsimp only; omega)))); (case hbind => first | exact BindsTo.of_eq rfl | (refine' binds_K ?bx_q ?b1_q ?b2_q ?b3_q ?b4_q ?b5_q; (case bx_q => assumption); (case b1_q => exact rfl); (case b2_q => k_dflt k_is); (case b3_q => exact rfl); (case b4_q => exact rfl); (case b5_q => exact rfl))); (case hloc => exact locs rfl); (case ha => exact rfl); (case hb => exact rfl); (case hc => exact rfl); (case hd => decide))
  (k_with "np_enterX" => (case ho => k_dflt k_is); (case hcd => k_dflt k_is); (try (case hr => (first | omega | (dsimp only; omega)))); (case hbind => first | exact BindsTo.of_eq rfl | (refine' binds_K ?bx_q ?b1_q ?b2_q ?b3_q ?b4_q ?b5_q; (case bx_q => assumption); (case b1_q => exact rfl); (case b2_q => k_dflt k_is); (case b3_q => exact rfl); (case b4_q => exact rfl); (case b5_q => exact rfl))); (case hkd => exact rfl); (case hnd => decide +kernel); (case ha => exact rfl); (case hb => exact rfl); (case hc => exact rfl))
  trivial
theorem wNpX51 : True := by
  (k_with "exec Raise some none" => (k_here; (with_reducible show wpAny _ _ (exec (Stmt.Raise (some _) none _) _) _ _ _); k_dflt (refine' Raise_own ?hh_q ?_; (case hh_q => exact rfl); k_whole)))
  trivial
section
variable {w : World} {A : Around} {s : Shared} {h₀ base : Heap} {outer : List Env} {Rr : Result → Shared → Prop}
theorem access_raise1 {R : Addr} {b : Int} {tb : Tok} (G : Gr w h₀) (hk : Up h₀ s.heap) (hA : A.handled = none) (hd : A.depth + 8 < recursionLimit) (K : Below A base outer s.heap)
    (hb : b < 0)
    (ret : ∀ h' tk v, Rz s.heap outer (Str.ofString "no such blocks") h' v → Rr (.error v) { s with heap := h', toks := tk }) :
    codeAny (model Pg w) A (.call (.ref 143) ⟨[.ref R, .int b tb], []⟩) Rr s := by
  have hX := G.X.keeps hk
  obtain ⟨ah, ad, af, ag, au⟩ := A
  obtain rfl : ah = none := hA
  dsimp only at hd
  refine' enterE_code (D := []) (binds := [(Str.ofString "self", .ref R), (Str.ofString "begin", .int b tb), (Str.ofString "many", .int 1 365), (Str.ofString "most", .none)]) G hk (fun _ h => nomatch h) ?ho ?hcd ?hr ?hbind ?hloc ?_ ?ha ?hb ?hc ?hd
  walk_at "np_enter"
  intro g' L' h' mean mg mb F' N' X' T' G' kG'
  try dsimp only
  k_unmd
  k_fold
  k_steps
  all_goals (
    rename Fr _ _ _ _ => kF
    refine wpAny_call (fault_make G' kF.keep rfl (by simp only [depth_deeper]; omega) fun h2 tk2 e t d U hen hdn he hW => ?_)
    refine ⟨e, t, d, rfl, G'.X.keeps fun b o q => U b o (kF.keep b o q), he, ?_⟩
    have u0 : Up s.heap h' := fun b o q => kF.keep b o (kG' b o q (by simp))
    refine rz_first K (fun b o q => U b o (u0 b o q)) (kF.keeps U).ns (frame_new kG' kF (fun _ h => nomatch h)) he hW (none_old u0 hen) (none_old u0 hdn) (fun q => ?_) (fun h3 Z => ret _ _ _ Z) rfl rfl
    obtain ⟨oL, _, _, hL, _⟩ := kF.ns
    rw [← q, hdn] at hL; cases hL)
theorem access_raise2 {R : Addr} {b m : Int} {tb tm : Tok} (G : Gr w h₀) (hk : Up h₀ s.heap) (hA : A.handled = none) (hd : A.depth + 8 < recursionLimit) (K : Below A base outer s.heap)
    (hb0 : 0 ≤ b) (hb : m < 1)
    (ret : ∀ h' tk v, Rz s.heap outer (Str.ofString "no such blocks") h' v → Rr (.error v) { s with heap := h', toks := tk }) :
    codeAny (model Pg w) A (.call (.ref 143) ⟨[.ref R, .int b tb, .int m tm], []⟩) Rr s := by
  have hX := G.X.keeps hk
  obtain ⟨ah, ad, af, ag, au⟩ := A
  obtain rfl : ah = none := hA
  dsimp only at hd
  refine' enterE_code (D := []) (binds := [(Str.ofString "self", .ref R), (Str.ofString "begin", .int b tb), (Str.ofString "many", .int m tm), (Str.ofString "most", .none)]) G hk (fun _ h => nomatch h) ?ho ?hcd ?hr ?hbind ?hloc ?_ ?ha ?hb ?hc ?hd
  walk_at "np_enter"
  intro g' L' h' mean mg mb F' N' X' T' G' kG'
  try dsimp only
  k_unmd
  k_fold
  k_steps
  all_goals (
    rename Fr _ _ _ _ => kF
    refine wpAny_call (fault_make G' kF.keep rfl (by simp only [depth_deeper]; omega) fun h2 tk2 e t d U hen hdn he hW => ?_)
    refine ⟨e, t, d, rfl, G'.X.keeps fun b o q => U b o (kF.keep b o q), he, ?_⟩
    have u0 : Up s.heap h' := fun b o q => kF.keep b o (kG' b o q (by simp))
    refine rz_first K (fun b o q => U b o (u0 b o q)) (kF.keeps U).ns (frame_new kG' kF (fun _ h => nomatch h)) he hW (none_old u0 hen) (none_old u0 hdn) (fun q => ?_) (fun h3 Z => ret _ _ _ Z) rfl rfl
    obtain ⟨oL, _, _, hL, _⟩ := kF.ns
    rw [← q, hdn] at hL; cases hL)
theorem init_raise {x : Addr} {a l g : Int} {ta tl tg : Tok} (G : Gr w h₀) (hk : Up h₀ s.heap) (hA : A.handled = none) (hd : A.depth + 8 < recursionLimit) (K : Below A base outer s.heap)
    (hb : a < 1 ∨ l < 1 ∨ g < l)
    (ret : ∀ h' tk v, Rz s.heap outer (Str.ofString "no such reading ahead") h' v → Rr (.error v) { s with heap := h', toks := tk }) :
    codeAny (model Pg w) A (.call (.ref 123) ⟨[.ref x, .int a ta, .int l tl, .int g tg], []⟩) Rr s := by
  have hX := G.X.keeps hk
  obtain ⟨ah, ad, af, ag, au⟩ := A
  obtain rfl : ah = none := hA
  dsimp only at hd
  refine' enterE_code (D := []) (binds := [(Str.ofString "self", .ref x), (Str.ofString "streams", .int a ta), (Str.ofString "least", .int l tl), (Str.ofString "greatest", .int g tg)]) G hk (fun _ h => nomatch h) ?ho ?hcd ?hr ?hbind ?hloc ?_ ?ha ?hb ?hc ?hd
  walk_at "np_enter"
  intro g' L' h' mean mg mb F' N' X' T' G' kG'
  try dsimp only
  k_unmd
  k_fold
  k_steps
  all_goals (
    rename Fr _ _ _ _ => kF
    refine wpAny_call (fault_make G' kF.keep rfl (by simp only [depth_deeper]; omega) fun h2 tk2 e t d U hen hdn he hW => ?_)
    refine ⟨e, t, d, rfl, G'.X.keeps fun b o q => U b o (kF.keep b o q), he, ?_⟩
    have u0 : Up s.heap h' := fun b o q => kF.keep b o (kG' b o q (by simp))
    refine rz_first K (fun b o q => U b o (u0 b o q)) (kF.keeps U).ns (frame_new kG' kF (fun _ h => nomatch h)) he hW (none_old u0 hen) (none_old u0 hdn) (fun q => ?_) (fun h3 Z => ret _ _ _ Z) rfl rfl
    obtain ⟨oL, _, _, hL, _⟩ := kF.ns
    rw [← q, hdn] at hL; cases hL)
end
end

section
theorem wNpX60 : True := by
  k_with_none
  (k_with "np_omega" => (first
      | (with_reducible assumption)
      | omega -splitDisjunctions
      | ((with_reducible show @Ne Nat _ _); with_reducible refine Ne.symm ?_; with_reducible assumption)
      | (refine Nat.le_antisymm ?_ ?_ <;> omega -splitDisjunctions)
      | (refine Int.le_antisymm ?_ ?_ <;> omega -splitDisjunctions)
      | omega +splitDisjunctions))
  (k_with "np_mm" => (first
      | (simp (disch := (first | assumption | exact Int.le_of_lt (by assumption) | exact Int.not_lt.mp (by assumption) | omega)) only [Int.max_eq_right, Int.max_eq_left, Int.min_eq_right, Int.min_eq_left]; done)
      | omega))
  (k_with "np_lt" => (k_dflt (repeat (intro _)); k_dflt (refine Got.mk ?_)))
  (k_with "np_ne" => (first
      | (with_reducible refine Nat.ne_of_lt ?_; with_reducible assumption)
      | (with_reducible refine Nat.ne_of_gt ?_; with_reducible assumption)
      | (with_reducible assumption)
      | (with_reducible refine Ne.symm ?_; with_reducible assumption)
      | (refine neN ?_; (try dsimp only); omega)))
  (k_with "np_mem" => (first
      | ((repeat' (with_reducible first | exact List.Mem.head _ | refine List.Mem.tail _ ?_)); done)
      | (with_reducible assumption)
      | assumption))
  (k_with "ite" => (k_closed; k_dflt (first | refine ite_pos (by decide) ?_ | refine ite_neg (by decide) ?_)))
  (k_with "callWith ref" => (k_here; k_dflt (first | (refine' callWith_K ?k1_q ?k2_q ?_; (case k1_q => k_asm); (case k2_q => k_is); k_whole) | (refine' callWith_K0 ?k1_q ?k2_q ?_; (case k1_q => exact Frag.In.keeps (by k_asm) (Fr.keep (by k_asm))); (case k2_q => k_is); k_whole))))
  (k_with "CompEnd" => (with_reducible refine haltIt ?_))
  (k_with "CompSrc" => (with_reducible refine haltIt ?_))
  (k_with "CompSrcT" => (with_reducible refine haltIt ?_))
  (k_with "np_inst" => (first
      | (refine' InstAt.of_base ?F_q ?h1_q ?h2_q; (case F_q => k_asm); (case h1_q => k_asm); (case h2_q => k_asm))
      | (refine' InstAt.of_mixed ?F_q ?h1_q ?N_q ?h2_q; (case F_q => k_asm); (case h1_q => k_asm); (case N_q => k_asm); (case h2_q => k_mem))))
  (k_with "execs cons" => (k_here; (try (with_reducible refine gentok ?_; intro _)); (with_reducible refine wpAny_execs_cons ?_); (try dsimp only); (try k_fold)))
  (k_with "execs nil" => (k_here; with_reducible refine gentok ?_; intro _))
  (k_with "np_handed" => (exact handed_opt _ _))
  (k_with "np_enter" => (case ho => k_dflt k_is); (case hcd => k_dflt k_is); (try (case hr => (first | omega | (dsimp only; omega)))); (case hbind => first | exact BindsTo.of_eq rfl | (refine' binds_K ?bx_q ?b1_q ?b2_q ?b3_q ?b4_q ?b5_q; (case bx_q => assumption); (case b1_q => exact rfl); (case b2_q => k_dflt k_is); (case b3_q => exact rfl); (case b4_q => exact rfl); (case b5_q => exact rfl))); (case hloc => exact locs rfl); (case ha => exact rfl); (case hb => exact rfl); (case hc => exact rfl); (case hd => decide))
  (k_with "np_enterX" => (case ho => k_dflt k_is); (case hcd => k_dflt k_is); (try (case hr => (first | omega | (dsimp only; omega)))); (case hbind => first | exact BindsTo.of_eq rfl | (refine' binds_K ?bx_q ?b1_q ?b2_q ?b3_q ?b4_q ?b5_q; (case bx_q => assumption); (case b1_q => exact rfl); (case b2_q => k_dflt k_is); (case b3_q => exact rfl); (case b4_q => exact rfl); (case b5_q => exact rfl))); (case hkd => exact rfl); (case hnd => decide +kernel); (case ha => exact rfl); (case hb => exact rfl); (case hc => exact rfl))
  trivial
section
variable {w : World} {A : Around} {E : Value → Shared → Prop} {s' : Shared} {Q : Flow → Shared → Prop} {g h1 : Heap} {outer : List Env} {L a L0 : Addr} {o0 : Obj} {m mg mb : Str → Option Value} {mean : ExcName → Option Value} {name why n : Str} {scope : Scope} {cd v : Value} {b₀ : Stmt} {suite : List Stmt} {pos np : Pos} {rest : List ExceptHandler}
theorem caught_W (hA : A.frames = some outer) (Z : Rz h1 (envOf name scope L a cd :: outer) why s'.heap v) (F : Fr g L h1 m) (hg : ∀ b o, g.get? b = some o → b ∉ outer.filterMap (·.frame)) (X : (Np.hd.heap_1 w.params).In g) (T : Top topProg LS mean mg mb g)
    (hL0 : h1.get? L0 = some o0) (hnf : ∀ vs, o0.data ≠ .fields vs) (hgL0 : g.get? L0 = none) (hneL : L0 ≠ L)
    (k : ∀ h' e oe d sl tk x ktk wtk, v = .ref e → Fr g L h' (fun y => if y = n then some (.ref e) else m y) → News g L h' [(e, oe), (d, dictOf [⟨x, .str (Str.ofString "why") ktk, .str why wtk⟩] 1), (L0, { o0 with slots := sl })] → oe.cls = .ref 44 → oe.dict = some d → notCls oe = true →
      wpAny (model Pg w) ((A.deeper (envOf name scope L a cd)).mark (some (.ref e))) (execs (b₀ :: suite) (envOf name scope L a cd))
        (fun f s₄ => wpAny (model Pg w) (A.deeper (envOf name scope L a cd)) (do bindName (envOf name scope L a cd) n .none; unbindBehindTheSuite (envOf name scope L a cd) n pos) (fun _ s₅ => Q f s₅) E s₄)
        (AsSuiteRaised (model Pg w) ((A.deeper (envOf name scope L a cd)).mark (some (.ref e))) (envOf name scope L a cd) n pos (notedBy (model Pg w) ((A.deeper (envOf name scope L a cd)).mark (some (.ref e))) (envOf name scope L a cd) (cameBackBy (model Pg w) (A.deeper (envOf name scope L a cd)) (envOf name scope L a cd) E)))
        { s' with heap := h', toks := tk })
    (hk : scope.kind = .function := by rfl) (hlo : (envOf name scope L a cd).kindOf n = some .local := by rfl) (hx : (envOf name scope L a cd).kindOf (Str.ofString "Misused") = some .globalImplicit := by rfl) :
    wpAny (model Pg w) (A.deeper (envOf name scope L a cd)) (noteFrame v (envOf name scope L a cd))
      (fun _ s₂ => wpAny (model Pg w) (A.deeper (envOf name scope L a cd)) (setFlight v none) (fun _ s₃ =>
        wpAny (model Pg w) (A.deeper (envOf name scope L a cd)) (handleBy v (envOf name scope L a cd) (.ExceptHandler (some (.Name (Str.ofString "Misused") np)) (some n) (b₀ :: suite) pos :: rest)) Q E s₃) E s₂) E s' := by
  obtain ⟨B, e, d, tk, rfl, FL, hB, hW, hen, hdn, SL⟩ := Z
  obtain ⟨hh, gs, dr, tks, os⟩ := s'
  dsimp only at FL SL
  have fr := Around.frames_deeper (env := envOf name scope L a cd) hA
  have gL : g.get? L = none := by
    cases q : g.get? L with
    | none => rfl
    | some o => exact absurd (Nat.lt_of_lt_of_le (Heap.lt_size q) F.above) (Nat.lt_irrefl _)
  have gB : ∀ b o, g.get? b = some o → B.get? b = some o := fun b o q => hB b o (F.keep b o q) fun hm => by
    rcases List.mem_cons.mp hm with h | hm
    · rw [h, gL] at q; cases q
    · exact hg b o q hm
  have hLs : ∃ oL, h1.get? L = some oL := by obtain ⟨oL, _, _, hL, _⟩ := F.ns; exact ⟨oL, hL⟩
  have eL : e ≠ L := fun q => by obtain ⟨oL, hL⟩ := hLs; rw [← q, hen] at hL; cases hL
  have dL : d ≠ L := fun q => by obtain ⟨oL, hL⟩ := hLs; rw [← q, hdn] at hL; cases hL
  refine noteFrame_onD fr FL.frames rfl FL.td FL.stays FL.new fun h4 k1 k2 k3 k4 => ?_
  refine setFlightD k1 k2 k3 fun h5 j1 j2 j3 j4 => ?_
  have sm5 : h1.UpToSlots h5 := SL.trans (k4.trans j4)
  have F5 : Fr g L h5 m := F.of_stays (fun b o q => j1 b o (gB b o q)) sm5
  have j3' := j3
  obtain ⟨oe5, vs5, T5, oT5, ts5, he5, hc5, hd5, hr5⟩ := j3'
  refine wpAny_handleBy_cons (codeAny_handlers_test (name_K F5 X (topRead_of T) (v := .ref 44) (by with_unfolding_all rfl) ?_ hk hx (by decide))) (by intro q; cases q)
  obtain ⟨nm, q, bs, hdct, sn, sub, ab, col, dd, q0, q1, q2, q3, q5, hC⟩ := misused_cls (X.keeps F5.keep)
  refine wpAny_excMatches_sub_self hC he5 hc5 (by decide +kernel) (codeAny_handlers_suite_as ?_)
  refine setFlightD j1 j2 j3 fun h6 i1 i2 i3 i4 => ?_
  have sm6 : h1.UpToSlots h6 := sm5.trans i4
  have F6 : Fr g L h6 m := F.of_stays (fun b o q => i1 b o (gB b o q)) sm6
  obtain ⟨oe6, vs6, T6, oT6, ts6, he6, hc6, hd6, hdat6, hr6⟩ := i3
  obtain ⟨x, ktk, hW⟩ := hW
  obtain ⟨sl, hsl⟩ := sm6 L0 o0 hL0 hnf
  have N6 : News g L h6 [(e, oe6), (d, dictOf [⟨x, .str (Str.ofString "why") ktk, .str why tk⟩] 1), (L0, { o0 with slots := sl })] :=
    List.forall_mem_cons.mpr ⟨⟨he6, eL, none_old F.keep hen⟩, List.forall_mem_cons.mpr ⟨⟨i1 _ _ hW, dL, none_old F.keep hdn⟩, List.forall_mem_singleton.mpr ⟨hsl, hneL, hgL0⟩⟩⟩
  refine stN F6 N6 (fun h7 F7 N7 => ?_) hk hlo
  exact k h7 e oe6 d sl _ x ktk tk rfl F7 N7 hc6 hd6 (by unfold notCls; rw [hdat6])
end
end

section
theorem offNpX7 : True := by w_top off; trivial
theorem wNpX70 : True := by
  k_with_none
  (k_with "np_omega" => (first
      | (with_reducible assumption)
      | omega -splitDisjunctions
      | ((with_reducible show @Ne Nat _ _); with_reducible refine Ne.symm ?_; with_reducible assumption)
      | (refine Nat.le_antisymm ?_ ?_ <;> omega -splitDisjunctions)
      | (refine Int.le_antisymm ?_ ?_ <;> omega -splitDisjunctions)
      | omega +splitDisjunctions))
  (k_with "np_mm" => (first
      | (simp (disch := (first | assumption | exact Int.le_of_lt (by assumption) | exact Int.not_lt.mp (by assumption) | omega)) only [Int.max_eq_right, Int.max_eq_left, Int.min_eq_right, Int.min_eq_left]; done)
      | omega))
  (k_with "np_lt" => (k_dflt (repeat (intro _)); k_dflt (refine Got.mk ?_)))
  (k_with "np_ne" => (first
      | (with_reducible refine Nat.ne_of_lt ?_; with_reducible assumption)
      | (with_reducible refine Nat.ne_of_gt ?_; with_reducible assumption)
      | (with_reducible assumption)
      | (with_reducible refine Ne.symm ?_; with_reducible assumption)
      | (refine neN ?_; (try dsimp only); omega)))
  (k_with "np_mem" => (first
      | ((repeat' (with_reducible first | exact List.Mem.head _ | refine List.Mem.tail _ ?_)); done)
      | (with_reducible assumption)
      | assumption))
  (k_with "ite" => (k_closed; k_dflt (first | refine ite_pos (by decide) ?_ | refine ite_neg (by decide) ?_)))
  (k_with "callWith ref" => (k_here; k_dflt (first | (refine' callWith_K ?k1_q ?k2_q ?_; (case k1_q => k_asm); (case k2_q => k_is); k_whole) | (refine' callWith_K0 ?k1_q ?k2_q ?_; (case k1_q => exact Frag.In.keeps (by k_asm) (Fr.keep (by k_asm))); (case k2_q => k_is); k_whole))))
  (k_with "CompEnd" => (with_reducible refine haltIt ?_))
  (k_with "CompSrc" => (with_reducible refine haltIt ?_))
  (k_with "CompSrcT" => (with_reducible refine haltIt ?_))
  (k_with "np_inst" => (first
      | (refine' InstAt.of_base ?F_q ?h1_q ?h2_q; (case F_q => k_asm); (case h1_q => k_asm); (case h2_q => k_asm))
      | (refine' InstAt.of_mixed ?F_q ?h1_q ?N_q ?h2_q; (case F_q => k_asm); (case h1_q => k_asm); (case N_q => k_asm); (case h2_q => k_mem))))
  (k_with "execs cons" => (k_here; (try (with_reducible refine gentok ?_; intro _)); (with_reducible refine wpAny_execs_cons ?_); (try dsimp only); (try k_fold)))
  (k_with "execs nil" => (k_here; with_reducible refine gentok ?_; intro _))
  (k_with "np_handed" => (exact handed_opt _ _))
  (k_with "np_enter" => (case ho => k_dflt k_is); (case hcd => k_dflt k_is); (try (case hr => (first | omega | (dsimp only; omega)))); (case hbind => first | exact BindsTo.of_eq rfl | (refine' binds_K ?bx_q ?b1_q ?b2_q ?b3_q ?b4_q ?b5_q; (case bx_q => assumption); (case b1_q => exact rfl); (case b2_q => k_dflt k_is); (case b3_q => exact rfl); (case b4_q => exact rfl); (case b5_q => exact rfl))); (case hloc => exact locs rfl); (case ha => exact rfl); (case hb => exact rfl); (case hc => exact rfl); (case hd => decide))
  (k_with "np_enterX" => (case ho => k_dflt k_is); (case hcd => k_dflt k_is); (try (case hr => (first | omega | (dsimp only; omega)))); (case hbind => first | exact BindsTo.of_eq rfl | (refine' binds_K ?bx_q ?b1_q ?b2_q ?b3_q ?b4_q ?b5_q; (case bx_q => assumption); (case b1_q => exact rfl); (case b2_q => k_dflt k_is); (case b3_q => exact rfl); (case b4_q => exact rfl); (case b5_q => exact rfl))); (case hkd => exact rfl); (case hnd => decide +kernel); (case ha => exact rfl); (case hb => exact rfl); (case hc => exact rfl))
  trivial
section
variable {prog : Program} {w : World} {A : Around} {E : Value → Shared → Prop} {s : Shared}
theorem exc_why {e d : Addr} {oe : Obj} {x : Int} {ktk : Tok} {v : Value} {expr : Bool} {Q : Value → Shared → Prop} (X : (Np.hd.heap_1 w.params).In s.heap) (he : s.heap.get? e = some oe) (hc : oe.cls = .ref 44) (hde : oe.dict = some d) (hno : notCls oe = true)
    (hd : s.heap.get? d = some (dictOf [⟨x, .str (Str.ofString "why") ktk, v⟩] 1)) (hv : handedIn v = true) (h : Q v { s with toks := s.toks + 1 }) :
    wpAny (model prog w) A (getAttr (.ref e) (Str.ofString "why") expr) Q E s := by
  obtain ⟨hh, g, dr, t, os⟩ := s
  dsimp only at X he hd h
  have I : InstAt hh e oe 44 (some (dictOf [⟨x, .str (Str.ofString "why") ktk, v⟩] 1)) := ⟨he, hc, hno, by rw [hde]; exact hd⟩
  have L0 := I.type (M := model prog w)
  have L1 := looks_findIn (M := model prog w) X (show findIn (Np.hd.heap_1 w.params) (.ref 44) "__getattribute__" = some (some (.builtin "BaseException.__getattribute__")) by with_unfolding_all rfl)
  have L2 := looks_findIn (M := model prog w) X (show findIn (Np.hd.heap_1 w.params) (.ref 44) "__getattr__" = some none by with_unfolding_all rfl)
  have L3 := looks_find (M := model prog w) X I (findObj_own (attr := none) (v := v) (name := Str.ofString "why") (by with_unfolding_all rfl) (by with_unfolding_all rfl) rfl (by rfl))
  have ga := PySem.F.excAttr_ValueError.ga
  have f3 := ga.bind (.ref e)
  have hx0 : (expr && onTheHeap (Value.builtin "BaseException.__getattribute__")) = false := by cases expr <;> rfl
  have hx2 : (Value.builtin "BaseException.__getattribute__" == Value.builtin "object.__getattribute__") = false := by decide +kernel
  unfold getAttr getAttrBy
  refine wpAny_bind (wpAny_mkText (wpAny_holding (wpAny_bind (L0.at (wpAny_bind (L1.at ?_))))))
  repeat (any_goals (first | assumption | with_reducible refine L0.at ?_ | with_reducible refine L1.at ?_ | with_reducible refine L2.at ?_ | wp_step))
  refine codeAny_call_builtin ga.plain PySem.F.entry_bexc_ga ?_
  obtain ⟨nm, q, bs, hdct, sn, sub, ab, col, dd, q0, q1, q2, q3, q5, hC⟩ := misused_cls X
  have hk : builtinKind "BaseException.__getattribute__" = some .slot := by decide +kernel
  have hsplit : splitId "BaseException.__getattribute__" = some ("BaseException", "__getattribute__") := by decide +kernel
  have hcB : (Value.ref 44 :: mBm).contains (.type "BaseException") = true := by decide +kernel
  have ha := PySem.F.args_bexc_ga (.ref e) (.str (Str.ofString "why") t)
  simp only [checkBuiltinCall, hk, hsplit]
  refine wpAny_bind ?_
  unfold isInstance
  repeat (any_goals (first | assumption | with_reducible refine L0.at ?_ | (with_reducible refine wpAny_isSubtype_exc hC ?_; rw [hcB]) | with_reducible refine L3.at ?_ | wp_step))
  show wpAny _ _ (handedOut v) _ _ _
  rw [handedOut_of hv]
  exact wpAny_pure h
end
section
variable {w : World} {A : Around} {s : Shared} {h₀ base : Heap} {Q E : Value → Shared → Prop}
/-- _law_heard of a call that raises Misused(why) -/
theorem heard_misused {lam L0 : Addr} {o0 : Obj} {env0 : Env} {why : Str} (G : Gr w h₀) (hk : Up h₀ s.heap) (hA : A.handled = none) (hd : A.depth + 30 < recursionLimit) (K : Below A base [env0] s.heap) (hf0 : env0.frame = some L0)
    (hlam : FnAt lam s.heap) (hL0 : s.heap.get? L0 = some o0) (hnf : ∀ vs, o0.data ≠ .fields vs) (hhL : h₀.get? L0 = none)
    (hcall : ∀ (A' : Around) outer' (s1 : Shared) R', A'.handled = none → A'.depth + 20 < recursionLimit → Below A' base outer' s1.heap → Up s.heap s1.heap → (∀ h' tk v, Rz s1.heap outer' why h' v → R' (.error v) { s1 with heap := h', toks := tk }) → codeAny (model Pg w) A' (.call (.ref lam) ⟨[], []⟩) R' s1)
    (ret : ∀ h' tk t sl u1 u2, (∀ b o, b ≠ L0 → s.heap.get? b = some o → h'.get? b = some o) → h'.get? L0 = some { o0 with slots := sl } → s.heap.get? t = none → h'.get? t = some { cls := .type "tuple", data := .seq #[.str (Str.ofString "misused") u1, .str why u2] } → Q (.ref t) { s with heap := h', toks := tk }) :
    wpAny (model Pg w) A (call (.ref 203) [.ref lam]) Q E s := by
  obtain ⟨ah, ad, af, ag, au⟩ := A
  obtain rfl : ah = none := hA
  dsimp only at hd
  refine wpAny_call ?_
  refine' enterE_code (D := [(L0, o0)]) (binds := [(Str.ofString "call", .ref lam)]) G hk (List.forall_mem_singleton.mpr ⟨hL0, hhL⟩) ?ho ?hcd ?hr ?hbind ?hloc ?_ ?ha ?hb ?hc ?hd
  walk_at "np_enter"
  intro g' L' h' mean mg mb F' N' X' T' G' kG'
  try dsimp only
  k_unmd
  k_fold
  k_steps
  rename Fr _ _ _ _ => kF; rename News _ _ _ _ => kN
  have u0 : Up s.heap h' := up_of_news kG' kF kN (List.forall_mem_singleton.mpr hL0) (List.forall_mem_singleton.mpr (.head _))
  have hne0 : L0 ≠ L' := (kN _ (.head _)).2.1
  have hg0 : g'.get? L0 = none := (kN _ (.head _)).2.2
  have hnL : s.heap.get? L' = none := frame_new kG' kF (List.forall_mem_singleton.mpr hne0)
  refine callWith_F0 (by obtain ⟨oc, od, fd, sl, e⟩ := hlam; exact ⟨oc, od, fd, sl, u0 _ _ e⟩) (wpAny_call (hcall _ [envOf _ _ L' _ _, env0] _ _ rfl (by simp only [depth_deeper]; omega) (below_push K u0 kF.ns hnL rfl rfl) u0 fun h2 tk2 v Z => ?_))
  refine caught_W K.stack Z kF (fun b o q hm => ?_) X' T' (kN.get (.head _)) hnf hg0 hne0 (fun h3 e oe d sl tk3 x ktk wtk hv F3 N3 hc hde hno => ?_)
  · rw [List.filterMap_cons, hf0] at hm
    simp only [List.filterMap_nil, List.mem_singleton] at hm
    rw [hm, hg0] at q; cases q
  · clear kF kN Z u0
    obtain ⟨ocl, odi, oda, osl⟩ := oe
    dsimp only at hc hde
    subst hc hde
    try dsimp only at N3
    try dsimp only
    k_steps
    rename Fr _ _ _ _ => kF; rename News _ _ _ _ => kN
    refine exc_why (X'.keeps kF.keep) (kN.get (.head _)) rfl rfl hno (kN.get (.tail _ (.head _))) rfl ?_
    try dsimp only
    k_steps
    rename Fr _ _ _ _ => kF2; rename News _ _ _ _ => kN2
    refine ret _ _ _ sl _ _ (fun b o hb q => ?_) (kN2.get (by k_mem)) ?_ (kN2.get (.head _))
    · exact kF2.keep b o (kG' b o q (by simpa using hb))
    · exact none_but kG' kN2 (.head _) (nm1 (by omega))
end
end

section
theorem wNpX90 : True := by
  k_with_none
  (k_with "np_omega" => (first
      | (with_reducible assumption)
      | omega -splitDisjunctions
      | ((with_reducible show @Ne Nat _ _); with_reducible refine Ne.symm ?_; with_reducible assumption)
      | (refine Nat.le_antisymm ?_ ?_ <;> omega -splitDisjunctions)
      | (refine Int.le_antisymm ?_ ?_ <;> omega -splitDisjunctions)
      | omega +splitDisjunctions))
  (k_with "np_mm" => (first
      | (simp (disch := (first | assumption | exact Int.le_of_lt (by assumption) | exact Int.not_lt.mp (by assumption) | omega)) only [Int.max_eq_right, Int.max_eq_left, Int.min_eq_right, Int.min_eq_left]; done)
      | omega))
  (k_with "np_lt" => (k_dflt (repeat (intro _)); k_dflt (refine Got.mk ?_)))
  (k_with "np_ne" => (first
      | (with_reducible refine Nat.ne_of_lt ?_; with_reducible assumption)
      | (with_reducible refine Nat.ne_of_gt ?_; with_reducible assumption)
      | (with_reducible assumption)
      | (with_reducible refine Ne.symm ?_; with_reducible assumption)
      | (refine neN ?_; (try dsimp only); omega)))
  (k_with "np_mem" => (first
      | ((repeat' (with_reducible first | exact List.Mem.head _ | refine List.Mem.tail _ ?_)); done)
      | (with_reducible assumption)
      | assumption))
  (k_with "ite" => (k_closed; k_dflt (first | refine ite_pos (by decide) ?_ | refine ite_neg (by decide) ?_)))
  (k_with "callWith ref" => (k_here; k_dflt (first | (refine' callWith_K ?k1_q ?k2_q ?_; (case k1_q => k_asm); (case k2_q => k_is); k_whole) | (refine' callWith_K0 ?k1_q ?k2_q ?_; (case k1_q => exact Frag.In.keeps (by k_asm) (Fr.keep (by k_asm))); (case k2_q => k_is); k_whole))))
  (k_with "CompEnd" => (with_reducible refine haltIt ?_))
  (k_with "CompSrc" => (with_reducible refine haltIt ?_))
  (k_with "CompSrcT" => (with_reducible refine haltIt ?_))
  (k_with "np_inst" => (first
      | (refine' InstAt.of_base ?F_q ?h1_q ?h2_q; (case F_q => k_asm); (case h1_q => k_asm); (case h2_q => k_asm))
      | (refine' InstAt.of_mixed ?F_q ?h1_q ?N_q ?h2_q; (case F_q => k_asm); (case h1_q => k_asm); (case N_q => k_asm); (case h2_q => k_mem))))
  (k_with "execs cons" => (k_here; (try (with_reducible refine gentok ?_; intro _)); (with_reducible refine wpAny_execs_cons ?_); (try dsimp only); (try k_fold)))
  (k_with "execs nil" => (k_here; with_reducible refine gentok ?_; intro _))
  (k_with "np_handed" => (exact handed_opt _ _))
  (k_with "np_enter" => (case ho => k_dflt k_is); (case hcd => k_dflt k_is); (try (case hr => (first | omega | (dsimp only; omega)))); (case hbind => first | exact BindsTo.of_eq rfl | (refine' binds_K ?bx_q ?b1_q ?b2_q ?b3_q ?b4_q ?b5_q; (case bx_q => assumption); (case b1_q => exact rfl); (case b2_q => k_dflt k_is); (case b3_q => exact rfl); (case b4_q => exact rfl); (case b5_q => exact rfl))); (case hloc => exact locs rfl); (case ha => exact rfl); (case hb => exact rfl); (case hc => exact rfl); (case hd => decide))
  (k_with "np_enterX" => (case ho => k_dflt k_is); (case hcd => k_dflt k_is); (try (case hr => (first | omega | (dsimp only; omega)))); (case hbind => first | exact BindsTo.of_eq rfl | (refine' binds_K ?bx_q ?b1_q ?b2_q ?b3_q ?b4_q ?b5_q; (case bx_q => assumption); (case b1_q => exact rfl); (case b2_q => k_dflt k_is); (case b3_q => exact rfl); (case b4_q => exact rfl); (case b5_q => exact rfl))); (case hkd => exact rfl); (case hnd => decide +kernel); (case ha => exact rfl); (case hb => exact rfl); (case hc => exact rfl))
  trivial
section
variable {w : World} {A : Around} {s : Shared} {h₀ : Heap} {D : List (Addr × Obj)} {R : Result → Shared → Prop}
    {name qual : Str} {params : Arguments} {body : Expr} {scope : Scope} {cl : List (Str × Addr)} {pm ctv : Value} {f c' : Addr}
/-- a lambda without parameters is called -/
theorem lam_enter (G : Gr w h₀) (hk : ∀ b o, h₀.get? b = some o → s.heap.get? b = some o) (hD : ∀ q ∈ D, s.heap.get? q.1 = some q.2 ∧ h₀.get? q.1 = none)
    (ho : s.heap.get? f = some (kla_obj name qual params body scope cl pm c' ctv)) (hcd : s.heap.CodeRec (.ref c') qual) (hroom : A.depth < recursionLimit)
    (hbind : bindArgs (kla_fn name qual params body scope cl pm (.ref c') ctv) ⟨[], []⟩ = pure [])
    (h : ∀ g L' h₁ mean mg mb, Fr g L' h₁ (fun y => ([] : List (Str × Value)).reverse.lookup y) → News g L' h₁ D → (Np.hd.heap_1 w.params).In g → Top topProg LS mean mg mb g → Gr w g → GSub s.heap g (D.map (·.1)) →
      wpAny (model Pg w) (A.deeper (envX qual scope L' f (.ref c') cl)) (eval body (envX qual scope L' f (.ref c') cl))
        (fun v s' => R (.ok (.ret v)) s') (fun e s' => wpAny (model Pg w) (A.deeper (envX qual scope L' f (.ref c') cl)) (leaving (envX qual scope L' f (.ref c') cl) e) (fun _ s'' => R (.error e) s'') (fun _ _ => False) s')
        { s with heap := h₁, toks := s.toks })
    (hco : scope.isCoroutine = false) (hgen : scope.isGenerator = false) (hks : scope.kind = .function)
    (hcell : ∀ x ∈ scope.names, x.2 ≠ .cell) : codeAny (model Pg w) A (.call (.ref f) ⟨[], []⟩) R s := by
  obtain ⟨X₀, mean, mg, mb, T⟩ := G
  have st : h₀.StaysIn (hideAll s.heap (D.map (·.1))) := fun b o e => hideAll_get _ (hk b o e) fun q => by
    obtain ⟨p, hp, rfl⟩ := List.mem_map.mp q
    rw [(hD p hp).2] at e; cases e
  refine kla_callFunE hroom ho rfl hco hgen rfl hcd ?_
  rw [hbind]
  refine wpAny_pure (wpAny_newFunctionEnv (binds := []) hcell (fun _ h => nomatch h) (fun h₁ hns hsb => ⟨((T.nolimit).keeps hk).fresh _ hsb, ?_⟩) hks)
  show codeAny _ _ (.expr body (envX qual scope s.heap.objs.size f (.ref c') cl)) _ _
  have hk₁ : ∀ b o, s.heap.get? b = some o → h₁.get? b = some o := fun b o e => hsb.extBut b o (Nat.ne_of_lt (Heap.lt_size e)) (Heap.get?_push_of_some _ e)
  exact kla_codeExpr (wpAny_mono (h _ s.heap.objs.size h₁ mean mg mb ⟨hns, fun b o e => hk₁ b o (of_hideAll _ e), Nat.le_of_eq (hideAll_size _ _)⟩
    (fun p hp => ⟨hk₁ _ _ (hD p hp).1, Nat.ne_of_lt (Heap.lt_size (hD p hp).1), hideAll_none _ (List.mem_map_of_mem hp)⟩) (X₀.keeps st) (T.keeps st) ⟨X₀.keeps st, mean, mg, mb, T.keeps st⟩ (fun b o e n => hideAll_get _ e n)) (fun v s' hl => hl)
    fun e s' y => wpAny_mono y (fun _ _ z => z) fun _ _ z => z.elim)
end
end

section
theorem wNpXA0 : True := by
  k_with_none
  (k_with "np_omega" => (first
      | (with_reducible assumption)
      | omega -splitDisjunctions
      | ((with_reducible show @Ne Nat _ _); with_reducible refine Ne.symm ?_; with_reducible assumption)
      | (refine Nat.le_antisymm ?_ ?_ <;> omega -splitDisjunctions)
      | (refine Int.le_antisymm ?_ ?_ <;> omega -splitDisjunctions)
      | omega +splitDisjunctions))
  (k_with "np_mm" => (first
      | (simp (disch := (first | assumption | exact Int.le_of_lt (by assumption) | exact Int.not_lt.mp (by assumption) | omega)) only [Int.max_eq_right, Int.max_eq_left, Int.min_eq_right, Int.min_eq_left]; done)
      | omega))
  (k_with "np_lt" => (k_dflt (repeat (intro _)); k_dflt (refine Got.mk ?_)))
  (k_with "np_ne" => (first
      | (with_reducible refine Nat.ne_of_lt ?_; with_reducible assumption)
      | (with_reducible refine Nat.ne_of_gt ?_; with_reducible assumption)
      | (with_reducible assumption)
      | (with_reducible refine Ne.symm ?_; with_reducible assumption)
      | (refine neN ?_; (try dsimp only); omega)))
  (k_with "np_mem" => (first
      | ((repeat' (with_reducible first | exact List.Mem.head _ | refine List.Mem.tail _ ?_)); done)
      | (with_reducible assumption)
      | assumption))
  (k_with "ite" => (k_closed; k_dflt (first | refine ite_pos (by decide) ?_ | refine ite_neg (by decide) ?_)))
  (k_with "callWith ref" => (k_here; k_dflt (first | (refine' callWith_K ?k1_q ?k2_q ?_; (case k1_q => k_asm); (case k2_q => k_is); k_whole) | (refine' callWith_K0 ?k1_q ?k2_q ?_; (case k1_q => exact Frag.In.keeps (by k_asm) (Fr.keep (by k_asm))); (case k2_q => k_is); k_whole))))
  (k_with "CompEnd" => (with_reducible refine haltIt ?_))
  (k_with "CompSrc" => (with_reducible refine haltIt ?_))
  (k_with "CompSrcT" => (with_reducible refine haltIt ?_))
  (k_with "np_inst" => (first
      | (refine' InstAt.of_base ?F_q ?h1_q ?h2_q; (case F_q => k_asm); (case h1_q => k_asm); (case h2_q => k_asm))
      | (refine' InstAt.of_mixed ?F_q ?h1_q ?N_q ?h2_q; (case F_q => k_asm); (case h1_q => k_asm); (case N_q => k_asm); (case h2_q => k_mem))))
  (k_with "execs cons" => (k_here; (try (with_reducible refine gentok ?_; intro _)); (with_reducible refine wpAny_execs_cons ?_); (try dsimp only); (try k_fold)))
  (k_with "execs nil" => (k_here; with_reducible refine gentok ?_; intro _))
  (k_with "np_handed" => (exact handed_opt _ _))
  (k_with "np_enter" => (case ho => k_dflt k_is); (case hcd => k_dflt k_is); (try (case hr => (first | omega | (dsimp only; omega)))); (case hbind => first | exact BindsTo.of_eq rfl | (refine' binds_K ?bx_q ?b1_q ?b2_q ?b3_q ?b4_q ?b5_q; (case bx_q => assumption); (case b1_q => exact rfl); (case b2_q => k_dflt k_is); (case b3_q => exact rfl); (case b4_q => exact rfl); (case b5_q => exact rfl))); (case hloc => exact locs rfl); (case ha => exact rfl); (case hb => exact rfl); (case hc => exact rfl); (case hd => decide))
  (k_with "np_enterX" => (case ho => k_dflt k_is); (case hcd => k_dflt k_is); (try (case hr => (first | omega | (dsimp only; omega)))); (case hbind => first | exact BindsTo.of_eq rfl | (refine' binds_K ?bx_q ?b1_q ?b2_q ?b3_q ?b4_q ?b5_q; (case bx_q => assumption); (case b1_q => exact rfl); (case b2_q => k_dflt k_is); (case b3_q => exact rfl); (case b4_q => exact rfl); (case b5_q => exact rfl))); (case hkd => exact rfl); (case hnd => decide +kernel); (case ha => exact rfl); (case hb => exact rfl); (case hc => exact rfl))
  trivial
theorem rz_weaken {s0 s1 h' : Heap} {outer : List Env} {why : Str} {v : Value} (u : Up s0 s1) (Z : Rz s1 outer why h' v) : Rz s0 outer why h' v := by
  obtain ⟨B, e, d, tk, hv, FL, hB, hW, hen, hdn, SL⟩ := Z
  exact ⟨B, e, d, tk, hv, FL, fun b o q hb => hB b o (u b o q) hb, hW, none_old u hen, none_old u hdn, (Heap.UpToSlots.of_keeps u).trans SL⟩
theorem frame_none {g h : Heap} {L : Addr} {m : Str → Option Value} (F : Fr g L h m) : g.get? L = none := by
  cases q : g.get? L with
  | none => rfl
  | some o => exact absurd (Nat.lt_of_lt_of_le (Heap.lt_size q) F.above) (Nat.lt_irrefl _)
theorem after_heard {g h h' : Heap} {L t : Addr} {m : Str → Option Value} {news : List (Addr × Obj)} {oL ot : Obj} {sl : Array (Option Value)} (F : Fr g L h m) (N : News g L h news) (hL : h.get? L = some oL) (hkp : ∀ b o, b ≠ L → h.get? b = some o → h'.get? b = some o) (hsl : h'.get? L = some { oL with slots := sl }) (ht : h.get? t = none) (ht' : h'.get? t = some ot) :
    Fr g L h' m ∧ News g L h' ((t, ot) :: news) := by
  have sm : h.UpToSlots h' := fun b o e _ => by
    by_cases hb : b = L
    · subst hb; rw [hL] at e; cases e; exact ⟨sl, hsl⟩
    · exact ⟨o.slots, hkp b o hb e⟩
  have st : g.StaysIn h' := fun b o e => hkp b o (fun q => by rw [q, frame_none F] at e; cases e) (F.keep b o e)
  refine ⟨F.of_stays st sm, fun p hp => ?_⟩
  rcases List.mem_cons.mp hp with rfl | hp
  · exact ⟨ht', (fun q => by have q' : t = L := q; rw [q', hL] at ht; cases ht), none_old F.keep ht⟩
  · exact ⟨hkp _ _ (N p hp).2.1 (N p hp).1, (N p hp).2⟩
theorem below_under {A : Around} {id : String} {args : Args} {base h h' : Heap} {outer : List Env} (K : Below A base outer h) (hu : Up h h') : Below (A.under (.builtin id args)) base outer h' := by
  refine ⟨?_, fun b o q => hu b o (K.stays b o q), K.frames.of_keeps fun b o e _ => ⟨o, hu b o e, rfl⟩⟩
  have := K.stack
  obtain ⟨a1, a2, a3, a4, a5⟩ := A
  dsimp only at this
  subst this
  rfl
section
variable {w : World} {A : Around} {s : Shared} {h₀ base : Heap} {outer : List Env} {Rr : Result → Shared → Prop}
theorem new_raise {a l g : Int} {ta tl tg : Tok} (G : Gr w h₀) (hk : Up h₀ s.heap) (hA : A.handled = none) (hd : A.depth + 9 < recursionLimit) (K : Below A base outer s.heap) (hb : a < 1 ∨ l < 1 ∨ g < l)
    (ret : ∀ h' tk v, Rz s.heap outer (Str.ofString "no such reading ahead") h' v → Rr (.error v) { s with heap := h', toks := tk }) :
    codeAny (model Pg w) A (.call (.ref 180) ⟨[.int a ta, .int l tl, .int g tg], []⟩) Rr s := by
  refine make_code (fI := 123) G hk ?_ ?_ ?_ fun x d h' ex ed hu hx hdx => ?_
  · k_dflt k_is
  · k_dflt k_is
  · k_dflt k_is
  refine init_raise G (fun b o q => hu b o (hk b o q)) (show A.handled = none from hA) (by simp only [depth_under_make]; omega) (below_under K hu) hb fun h2 tk v Z => ?_
  exact ret h2 tk v (rz_weaken hu Z)
end
end

section
theorem offNpXB : True := by w_top off; trivial
theorem wNpXB0 : True := by
  k_with_none
  (k_with "np_omega" => (first
      | (with_reducible assumption)
      | omega -splitDisjunctions
      | ((with_reducible show @Ne Nat _ _); with_reducible refine Ne.symm ?_; with_reducible assumption)
      | (refine Nat.le_antisymm ?_ ?_ <;> omega -splitDisjunctions)
      | (refine Int.le_antisymm ?_ ?_ <;> omega -splitDisjunctions)
      | omega +splitDisjunctions))
  (k_with "np_mm" => (first
      | (simp (disch := (first | assumption | exact Int.le_of_lt (by assumption) | exact Int.not_lt.mp (by assumption) | omega)) only [Int.max_eq_right, Int.max_eq_left, Int.min_eq_right, Int.min_eq_left]; done)
      | omega))
  (k_with "np_lt" => (k_dflt (repeat (intro _)); k_dflt (refine Got.mk ?_)))
  (k_with "np_ne" => (first
      | (with_reducible refine Nat.ne_of_lt ?_; with_reducible assumption)
      | (with_reducible refine Nat.ne_of_gt ?_; with_reducible assumption)
      | (with_reducible assumption)
      | (with_reducible refine Ne.symm ?_; with_reducible assumption)
      | (refine neN ?_; (try dsimp only); omega)))
  (k_with "np_mem" => (first
      | ((repeat' (with_reducible first | exact List.Mem.head _ | refine List.Mem.tail _ ?_)); done)
      | (with_reducible assumption)
      | assumption))
  (k_with "ite" => (k_closed; k_dflt (first | refine ite_pos (by decide) ?_ | refine ite_neg (by decide) ?_)))
  (k_with "callWith ref" => (k_here; k_dflt (first | (refine' callWith_K ?k1_q ?k2_q ?_; (case k1_q => k_asm); (case k2_q => k_is); k_whole) | (refine' callWith_K0 ?k1_q ?k2_q ?_; (case k1_q => exact Frag.In.keeps (by k_asm) (Fr.keep (by k_asm))); (case k2_q => k_is); k_whole))))
  (k_with "CompEnd" => (with_reducible refine haltIt ?_))
  (k_with "CompSrc" => (with_reducible refine haltIt ?_))
  (k_with "CompSrcT" => (with_reducible refine haltIt ?_))
  (k_with "np_inst" => (first
      | (refine' InstAt.of_base ?F_q ?h1_q ?h2_q; (case F_q => k_asm); (case h1_q => k_asm); (case h2_q => k_asm))
      | (refine' InstAt.of_mixed ?F_q ?h1_q ?N_q ?h2_q; (case F_q => k_asm); (case h1_q => k_asm); (case N_q => k_asm); (case h2_q => k_mem))))
  (k_with "execs cons" => (k_here; (try (with_reducible refine gentok ?_; intro _)); (with_reducible refine wpAny_execs_cons ?_); (try dsimp only); (try k_fold)))
  (k_with "execs nil" => (k_here; with_reducible refine gentok ?_; intro _))
  (k_with "np_handed" => (exact handed_opt _ _))
  (k_with "np_enter" => (case ho => k_dflt k_is); (case hcd => k_dflt k_is); (try (case hr => (first | omega | (dsimp only; omega)))); (case hbind => first | exact BindsTo.of_eq rfl | (refine' binds_K ?bx_q ?b1_q ?b2_q ?b3_q ?b4_q ?b5_q; (case bx_q => assumption); (case b1_q => exact rfl); (case b2_q => k_dflt k_is); (case b3_q => exact rfl); (case b4_q => exact rfl); (case b5_q => exact rfl))); (case hloc => exact locs rfl); (case ha => exact rfl); (case hb => exact rfl); (case hc => exact rfl); (case hd => decide))
  (k_with "np_enterX" => (case ho => k_dflt k_is); (case hcd => k_dflt k_is); (try (case hr => (first | omega | (dsimp only; omega)))); (case hbind => first | exact BindsTo.of_eq rfl | (refine' binds_K ?bx_q ?b1_q ?b2_q ?b3_q ?b4_q ?b5_q; (case bx_q => assumption); (case b1_q => exact rfl); (case b2_q => k_dflt k_is); (case b3_q => exact rfl); (case b4_q => exact rfl); (case b5_q => exact rfl))); (case hkd => exact rfl); (case hnd => decide +kernel); (case ha => exact rfl); (case hb => exact rfl); (case hc => exact rfl))
  trivial
section
variable {w : World} {A : Around} {s : Shared} {h₀ : Heap} {Q E : Value → Shared → Prop}
theorem init_spec2 {many least greatest : Int} {t1 t2 t3 : Tok} (G : Gr w h₀) (hk : Up h₀ s.heap) (hA : A.handled = none) (hd : A.depth + 1 < recursionLimit) (hm : 1 ≤ many) (hl : 1 ≤ least) (hg : least ≤ greatest)
    (ret : ∀ h' tk x d SL k, (s.heap.objs.size ≤ d ∧ @LT.lt Nat _ d x ∧ @LT.lt Nat _ d SL) → Up s.heap h' → s.heap.get? x = none → s.heap.get? d = none → s.heap.get? SL = none → RAt h' x d ⟨many, least, greatest, 0, 0, 0, 0⟩ SL → h'.get? SL = some (listOf #[] k) → Q (.ref x) {s with heap := h', toks := tk}) : wpAny (model Pg w) A (call (.ref 180) [.int many t1, .int least t2, .int greatest t3]) Q E s := by
  refine wpAny_call (make_code (fI := 123) G hk ?_ ?_ ?_ fun x d h' ex ed hu hx hdx => ?_)
  · k_dflt k_is
  · k_dflt k_is
  · k_dflt k_is
  have hne : x ≠ d := by omega
  have hxn : s.heap.get? x = none := Heap.get?_none_of_le (by omega)
  have hdn : s.heap.get? d = none := Heap.get?_none_of_le (by omega)
  refine' enter_code (D := [(d, dictOf [] 0)]) (h₀ := s.heap) (binds := [(Str.ofString "self", .ref x), (Str.ofString "streams", .int many t1), (Str.ofString "least", .int least t2), (Str.ofString "greatest", .int greatest t3)]) ⟨G.X.keeps hk, let ⟨a, b, c, T⟩ := G.T; ⟨a, b, c, T.keeps hk⟩⟩ hu (List.forall_mem_singleton.mpr ⟨hdx, hdn⟩) ?ho ?hcd ?hr ?hbind ?hloc ?_ ?ha ?hb ?hc ?hd
  case hr => exact (by simp only [depth_under_make]; omega)
  walk_at "np_enter"
  intro g' L' h'' mean mg mb F' N' X' T' G' kG'
  have hx' := kG' _ _ hx (by simpa using hne)
  try dsimp only
  k_unmd
  k_fold
  k_steps
  rename News _ _ _ _ => kN; rename Fr _ _ _ _ => kF
  refine ⟨rfl, ret _ _ x d _ _ ⟨by omega, by omega, by omega⟩ (fun b o e => kF.keep _ _ (kG' _ _ (hu _ _ e) ?_)) hxn hdn ?_ (RAt.mk' (kF.keep _ _ hx') (kN.get (by k_mem))) (kN.get (.head _))⟩
  · intro hb
    rw [List.map_singleton, List.mem_singleton] at hb
    rw [hb, hdn] at e
    cases e
  · have hS := none_but kG' kN (.head _) (nm1 (by omega))
    cases e : s.heap.get? _ with
    | none => rfl
    | some o => have := hu _ _ e; rw [hS] at this; cases this
end
theorem lts_of {g h : Heap} {L d : Addr} {news : List (Addr × Obj)} (N : News g L h news) (hz : h.objs.size ≤ d) : ∀ p ∈ news, @LT.lt Nat _ p.1 d := fun p hp => Nat.lt_of_lt_of_le (Heap.lt_size (N p hp).1) hz
end

section
theorem wNpWd0 : True := by
  k_with_none
  (k_with "np_omega" => (first
      | (with_reducible assumption)
      | omega -splitDisjunctions
      | ((with_reducible show @Ne Nat _ _); with_reducible refine Ne.symm ?_; with_reducible assumption)
      | (refine Nat.le_antisymm ?_ ?_ <;> omega -splitDisjunctions)
      | (refine Int.le_antisymm ?_ ?_ <;> omega -splitDisjunctions)
      | omega +splitDisjunctions))
  (k_with "np_mm" => (first
      | (simp (disch := (first | assumption | exact Int.le_of_lt (by assumption) | exact Int.not_lt.mp (by assumption) | omega)) only [Int.max_eq_right, Int.max_eq_left, Int.min_eq_right, Int.min_eq_left]; done)
      | omega))
  (k_with "np_lt" => (k_dflt (repeat (intro _)); k_dflt (refine Got.mk ?_)))
  (k_with "np_ne" => (first
      | (with_reducible refine Nat.ne_of_lt ?_; with_reducible assumption)
      | (with_reducible refine Nat.ne_of_gt ?_; with_reducible assumption)
      | (with_reducible assumption)
      | (with_reducible refine Ne.symm ?_; with_reducible assumption)
      | (refine neN ?_; (try dsimp only); omega)))
  (k_with "np_mem" => (first
      | ((repeat' (with_reducible first | exact List.Mem.head _ | refine List.Mem.tail _ ?_)); done)
      | (with_reducible assumption)
      | assumption))
  (k_with "ite" => (k_closed; k_dflt (first | refine ite_pos (by decide) ?_ | refine ite_neg (by decide) ?_)))
  (k_with "callWith ref" => (k_here; k_dflt (first | (refine' callWith_K ?k1_q ?k2_q ?_; (case k1_q => k_asm); (case k2_q => k_is); k_whole) | (refine' callWith_K0 ?k1_q ?k2_q ?_; (case k1_q => exact Frag.In.keeps (by k_asm) (Fr.keep (by k_asm))); (case k2_q => k_is); k_whole))))
  (k_with "CompEnd" => (with_reducible refine haltIt ?_))
  (k_with "CompSrc" => (with_reducible refine haltIt ?_))
  (k_with "CompSrcT" => (with_reducible refine haltIt ?_))
  (k_with "np_inst" => (first
      | (refine' InstAt.of_base ?F_q ?h1_q ?h2_q; (case F_q => k_asm); (case h1_q => k_asm); (case h2_q => k_asm))
      | (refine' InstAt.of_mixed ?F_q ?h1_q ?N_q ?h2_q; (case F_q => k_asm); (case h1_q => k_asm); (case N_q => k_asm); (case h2_q => k_mem))))
  (k_with "execs cons" => (k_here; (try (with_reducible refine gentok ?_; intro _)); (with_reducible refine wpAny_execs_cons ?_); (try dsimp only); (try k_fold)))
  (k_with "execs nil" => (k_here; with_reducible refine gentok ?_; intro _))
  (k_with "np_handed" => (exact handed_opt _ _))
  (k_with "np_enter" => (case ho => k_dflt k_is); (case hcd => k_dflt k_is); (try (case hr => (first | omega | (dsimp only; omega)))); (case hbind => first | exact BindsTo.of_eq rfl | (refine' binds_K ?bx_q ?b1_q ?b2_q ?b3_q ?b4_q ?b5_q; (case bx_q => assumption); (case b1_q => exact rfl); (case b2_q => k_dflt k_is); (case b3_q => exact rfl); (case b4_q => exact rfl); (case b5_q => exact rfl))); (case hloc => exact locs rfl); (case ha => exact rfl); (case hb => exact rfl); (case hc => exact rfl); (case hd => decide))
  (k_with "np_enterX" => (case ho => k_dflt k_is); (case hcd => k_dflt k_is); (try (case hr => (first | omega | (dsimp only; omega)))); (case hbind => first | exact BindsTo.of_eq rfl | (refine' binds_K ?bx_q ?b1_q ?b2_q ?b3_q ?b4_q ?b5_q; (case bx_q => assumption); (case b1_q => exact rfl); (case b2_q => k_dflt k_is); (case b3_q => exact rfl); (case b4_q => exact rfl); (case b5_q => exact rfl))); (case hkd => exact rfl); (case hnd => decide +kernel); (case ha => exact rfl); (case hb => exact rfl); (case hc => exact rfl))
  trivial
/-- the world's data: where the list of streams lies, the streams, the law's list, its streams -/
structure WDat where
  SL : Addr
  es : List Ent
  nl : Nat
  T : Addr
  ls : List LEnt
  nt : Nat
noncomputable def WDat.own (v : WDat) (dR Dd : Addr) : List Addr := dR :: v.SL :: Dd :: v.T :: (v.es.map (·.2.1) ++ v.ls.map (·.1))
noncomputable def WDat.all (v : WDat) (R dR Dd : Addr) : List Addr := R :: (v.es.map (·.1) ++ v.own dR Dd)
/-- both sides of the world over a heap; B holds what is not theirs -/
structure Wd (w : World) (Av : List Addr) (B h : Heap) (R dR Dd : Addr) (S1 S2 : Sc) (v : WDat) : Prop where
  rw : RW h R dR v.SL S1 v.es v.nl
  lw : LW w h Dd v.T S2 v.ls v.nt
  d1 : dR ≠ Dd
  d2 : ∀ e ∈ v.es, e.2.1 ≠ Dd
  d3 : v.SL ≠ v.T
  d4 : ∀ e ∈ v.ls, e.1 ≠ v.SL
  stays : B.StaysIn h
  no : ∀ a ∈ v.all R dR Dd, B.get? a = none
  av : ∀ a ∈ v.all R dR Dd, a ∉ Av
  pr : ∀ a ∈ Av, ∃ o, h.get? a = some o
section
variable {w : World} {Av : List Addr} {B h h' : Heap} {R dR Dd : Addr} {S1 S2 : Sc} {v : WDat}
theorem RW.congr {SL : Addr} {es : List Ent} {nl : Nat} (W : RW h R dR SL S1 es nl) (k : ∀ b o, (b = R ∨ b = dR ∨ b = SL ∨ (∃ e ∈ es, b = e.1 ∨ b = e.2.1)) → h.get? b = some o → h'.get? b = some o) : RW h' R dR SL S1 es nl := by
  obtain ⟨⟨q, t, a, b⟩, c, d, e, f, g⟩ := W
  refine ⟨⟨q, t, k _ _ (.inl rfl) a, k _ _ (.inr (.inl rfl)) b⟩, k _ _ (.inr (.inr (.inl rfl))) c, fun x hx => ?_, e, f, g⟩
  obtain ⟨q, t, a, b⟩ := d x hx
  exact ⟨q, t, k _ _ (.inr (.inr (.inr ⟨x, hx, .inl rfl⟩))) a, k _ _ (.inr (.inr (.inr ⟨x, hx, .inr rfl⟩))) b⟩
theorem LW.congr {T : Addr} {ls : List LEnt} {nt : Nat} (W : LW w h Dd T S2 ls nt) (k : ∀ b o, (b = Dd ∨ b = T ∨ (∃ e ∈ ls, b = e.1)) → h.get? b = some o → h'.get? b = some o) : LW w h' Dd T S2 ls nt := by
  obtain ⟨⟨o, a, b⟩, c, d, e, f⟩ := W
  refine ⟨⟨o, k _ _ (.inl rfl) a, b⟩, k _ _ (.inr (.inl rfl)) c, fun x hx => ?_, e, f⟩
  obtain ⟨t, n, a⟩ := d x hx
  exact ⟨t, n, k _ _ (.inr (.inr ⟨x, hx, rfl⟩)) a⟩
theorem Wd.congr (W : Wd w Av B h R dR Dd S1 S2 v) {B' : Heap} {Av' : List Addr} (k : ∀ b o, b ∈ v.all R dR Dd → h.get? b = some o → h'.get? b = some o) (st : B'.StaysIn h') (no : ∀ a ∈ v.all R dR Dd, B'.get? a = none) (av : ∀ a ∈ v.all R dR Dd, a ∉ Av') (pr : ∀ a ∈ Av', ∃ o, h'.get? a = some o) : Wd w Av' B' h' R dR Dd S1 S2 v := by
  obtain ⟨a, b, c, d, e, f, g, i, -, -⟩ := W
  refine ⟨a.congr fun x o hx => k x o ?_, b.congr fun x o hx => k x o ?_, c, d, e, f, st, no, av, pr⟩
  · rcases hx with rfl | rfl | rfl | ⟨e, he, rfl | rfl⟩
    · exact .head _
    · exact .tail _ (List.mem_append_right _ (.head _))
    · exact .tail _ (List.mem_append_right _ (.tail _ (.head _)))
    · exact .tail _ (List.mem_append_left _ (List.mem_map_of_mem (f := fun e : Ent => e.1) he))
    · exact .tail _ (List.mem_append_right _ (.tail _ (.tail _ (.tail _ (.tail _ (List.mem_append_left _ (List.mem_map_of_mem (f := fun e : Ent => e.2.1) he)))))))
  · rcases hx with rfl | rfl | ⟨e, he, rfl⟩
    · exact .tail _ (List.mem_append_right _ (.tail _ (.tail _ (.head _))))
    · exact .tail _ (List.mem_append_right _ (.tail _ (.tail _ (.tail _ (.head _)))))
    · exact .tail _ (List.mem_append_right _ (.tail _ (.tail _ (.tail _ (.tail _ (List.mem_append_right _ (List.mem_map_of_mem (f := fun e : LEnt => e.1) he)))))))
/-- everything that is not the world's is held, but for some addresses -/
theorem Wd.rebase (W : Wd w Av B h R dR Dd S1 S2 v) (X : List Addr) : Wd w Av (hideAll h (X ++ v.all R dR Dd)) h R dR Dd S1 S2 v :=
  W.congr (fun _ _ _ e => e) (fun b o q => of_hideAll _ q) (fun a ha => hideAll_none _ (List.mem_append_right _ ha)) W.av W.pr
theorem rebase_has {h : Heap} {as : List Addr} {a : Addr} {o : Obj} (e : h.get? a = some o) (n : a ∉ as) : (hideAll h as).get? a = some o := hideAll_get _ e n
theorem keepBut_stays {M : List Addr} (st : B.StaysIn h) (k : KeepBut M h h') (hM : ∀ a ∈ M, B.get? a = none) : B.StaysIn h' := fun b o q => k b o (fun hm => by rw [hM b hm] at q; cases q) (st b o q)
end
section
variable {w : World} {Av : List Addr} {B h h' : Heap} {R dR Dd : Addr} {S1 S2 : Sc} {v : WDat}
theorem absent_ne {h : Heap} {a b : Addr} {o : Obj} (ha : h.get? a = none) (hb : h.get? b = some o) : a ≠ b := fun q => by rw [q, hb] at ha; cases ha
theorem own_dR {v : WDat} : dR ∈ v.own dR Dd := .head _
theorem own_SL {v : WDat} : v.SL ∈ v.own dR Dd := .tail _ (.head _)
theorem own_Dd {v : WDat} : Dd ∈ v.own dR Dd := .tail _ (.tail _ (.head _))
theorem own_T {v : WDat} : v.T ∈ v.own dR Dd := .tail _ (.tail _ (.tail _ (.head _)))
theorem own_e {v : WDat} {e : Ent} (he : e ∈ v.es) : e.2.1 ∈ v.own dR Dd := .tail _ (.tail _ (.tail _ (.tail _ (List.mem_append_left _ (List.mem_map_of_mem (f := fun e : Ent => e.2.1) he)))))
theorem own_l {v : WDat} {e : LEnt} (he : e ∈ v.ls) : e.1 ∈ v.own dR Dd := .tail _ (.tail _ (.tail _ (.tail _ (List.mem_append_right _ (List.mem_map_of_mem (f := fun e : LEnt => e.1) he)))))
theorem own_cases {v : WDat} {a : Addr} (h : a ∈ v.own dR Dd) : a = dR ∨ a = v.SL ∨ a = Dd ∨ a = v.T ∨ (∃ e ∈ v.es, a = e.2.1) ∨ (∃ e ∈ v.ls, a = e.1) := by
  unfold WDat.own at h
  rcases List.mem_cons.mp h with h | h
  · exact .inl h
  rcases List.mem_cons.mp h with h | h
  · exact .inr (.inl h)
  rcases List.mem_cons.mp h with h | h
  · exact .inr (.inr (.inl h))
  rcases List.mem_cons.mp h with h | h
  · exact .inr (.inr (.inr (.inl h)))
  rcases List.mem_append.mp h with h | h
  · obtain ⟨e, he, rfl⟩ := List.mem_map.mp h
    exact .inr (.inr (.inr (.inr (.inl ⟨e, he, rfl⟩))))
  · obtain ⟨e, he, rfl⟩ := List.mem_map.mp h
    exact .inr (.inr (.inr (.inr (.inr ⟨e, he, rfl⟩))))
theorem own_all {v : WDat} {a : Addr} (h : a ∈ v.own dR Dd) : a ∈ v.all R dR Dd := .tail _ (List.mem_append_right _ h)
theorem Wd.noo (W : Wd w Av B h R dR Dd S1 S2 v) : ∀ a ∈ v.own dR Dd, B.get? a = none := fun a ha => W.no a (own_all ha)
theorem all_cases {v : WDat} {a : Addr} (h : a ∈ v.all R dR Dd) : a = R ∨ (∃ e ∈ v.es, a = e.1) ∨ a ∈ v.own dR Dd := by
  rcases List.mem_cons.mp h with h | h
  · exact .inl h
  · rcases List.mem_append.mp h with h | h
    · obtain ⟨e, he, rfl⟩ := List.mem_map.mp h
      exact .inr (.inl ⟨e, he, rfl⟩)
    · exact .inr (.inr h)
theorem all_R {v : WDat} : R ∈ v.all R dR Dd := .head _
theorem all_e {v : WDat} {e : Ent} (he : e ∈ v.es) : e.1 ∈ v.all R dR Dd := .tail _ (List.mem_append_left _ (List.mem_map_of_mem (f := fun e : Ent => e.1) he))
theorem Wd.putR (W : Wd w Av B h R dR Dd S1 S2 v) {M : List Addr} (k : KeepBut M h h') (hM : ∀ a ∈ M, a = dR ∨ a = v.SL ∨ ∃ e ∈ v.es, a = e.2.1) {SL' : Addr} {es' : List Ent} {nl' : Nat} {S1' : Sc} (rw' : RW h' R dR SL' S1' es' nl')
    (hSL : SL' = v.SL ∨ h.get? SL' = none) (hes : ∀ e ∈ es', (∃ e0 ∈ v.es, e.1 = e0.1 ∧ e.2.1 = e0.2.1) ∨ (h.get? e.1 = none ∧ h.get? e.2.1 = none)) : Wd w Av B h' R dR Dd S1' S2 { v with SL := SL', es := es', nl := nl' } := by
  have hnew : ∀ a ∈ ({ v with SL := SL', es := es', nl := nl' } : WDat).all R dR Dd, a ∈ v.all R dR Dd ∨ h.get? a = none := fun a ha => by
    rcases all_cases ha with h1 | ⟨e1, he1, h1⟩ | h1
    · rw [h1]; exact .inl all_R
    · rw [h1]
      rcases hes e1 he1 with ⟨e0, h0, h2, h3⟩ | h2
      · rw [h2]; exact .inl (all_e h0)
      · exact .inr h2.1
    · rcases own_cases h1 with h1 | h1 | h1 | h1 | ⟨e1, he1, h1⟩ | ⟨e1, he1, h1⟩
      · rw [h1]; exact .inl (own_all own_dR)
      · rw [h1]
        rcases hSL with h2 | h2
        · dsimp only; rw [h2]; exact .inl (own_all own_SL)
        · exact .inr h2
      · rw [h1]; exact .inl (own_all own_Dd)
      · rw [h1]; exact .inl (own_all own_T)
      · rw [h1]
        rcases hes e1 he1 with ⟨e0, h0, h2, h3⟩ | h2
        · rw [h3]; exact .inl (own_all (own_e h0))
        · exact .inr h2.2
      · rw [h1]; exact .inl (own_all (own_l he1))
  have hno := W.noo
  obtain ⟨⟨⟨q, t, hR, hdR⟩, hL, hE, n1, n2, hne⟩, lw, d1, d2, d3, d4, st, no, av, pr⟩ := W
  have lw0 := lw
  obtain ⟨⟨oD, hD, hoD⟩, hT, hE2, hnd, hne2⟩ := lw0
  have hcD := hoD.cls
  refine ⟨rw', lw.congr fun b o hb e => k b o (fun hm => ?_) e, d1, fun e he => ?_, ?_, fun e he => ?_, keepBut_stays st k fun a ha => ?_, fun a ha => ?_, fun a ha => ?_, fun a ha => ?_⟩
  · rcases hb with rfl | rfl | ⟨e2, he2, rfl⟩
    · rcases hM b hm with rfl | rfl | ⟨e1, he1, rfl⟩
      · exact d1 rfl
      · exact ne_of_cls hD hL (by rw [hcD]; simp) rfl
      · exact d2 e1 he1 rfl
    · rcases hM _ hm with h1 | h1 | ⟨e1, he1, h1⟩
      · exact ne_of_cls hT hdR (by simp) h1
      · exact d3 h1.symm
      · obtain ⟨q, t, a, b⟩ := hE e1 he1
        exact ne_of_cls hT b (by simp) h1
    · obtain ⟨t2, c2, hx2⟩ := hE2 e2 he2
      rcases hM _ hm with h1 | h1 | ⟨e1, he1, h1⟩
      · exact ne_of_cls hx2 hdR (by simp) h1
      · exact d4 e2 he2 h1
      · obtain ⟨q, t, a, b⟩ := hE e1 he1
        exact ne_of_cls hx2 b (by simp) h1
  · rcases hes e he with ⟨e0, h0, _, h1⟩ | h1
    · rw [h1]; exact d2 e0 h0
    · exact absent_ne h1.2 hD
  · rcases hSL with h1 | h1
    · dsimp only; rw [h1]; exact d3
    · exact absent_ne h1 hT
  · rcases hSL with h1 | h1
    · dsimp only; rw [h1]; exact d4 e he
    · obtain ⟨t2, c2, hx2⟩ := hE2 e he
      exact fun q => absent_ne h1 hx2 q.symm
  · rcases hM a ha with h1 | h1 | ⟨e1, he1, h1⟩
    · rw [h1]; exact hno _ own_dR
    · rw [h1]; exact hno _ own_SL
    · rw [h1]; exact hno _ (own_e he1)
  · rcases hnew a ha with h1 | h1
    · exact no a h1
    · exact none_old st h1
  · rcases hnew a ha with h1 | h1
    · exact av a h1
    · intro hv
      obtain ⟨o, ho⟩ := pr a hv
      rw [h1] at ho; cases ho
  · obtain ⟨o, ho⟩ := pr a ha
    refine ⟨o, k a o (fun hm => ?_) ho⟩
    rcases hM a hm with h1 | h1 | ⟨e1, he1, h1⟩
    · exact av a (by rw [h1]; exact own_all own_dR) ha
    · exact av a (by rw [h1]; exact own_all own_SL) ha
    · exact av a (by rw [h1]; exact own_all (own_e he1)) ha
theorem Wd.putL (W : Wd w Av B h R dR Dd S1 S2 v) {M : List Addr} (k : KeepBut M h h') (hM : ∀ a ∈ M, a = Dd ∨ a = v.T ∨ ∃ e ∈ v.ls, a = e.1) {T' : Addr} {ls' : List LEnt} {nt' : Nat} {S2' : Sc} (lw' : LW w h' Dd T' S2' ls' nt')
    (hT' : T' = v.T ∨ h.get? T' = none) (hls : ∀ e ∈ ls', (∃ e0 ∈ v.ls, e.1 = e0.1) ∨ h.get? e.1 = none) : Wd w Av B h' R dR Dd S1 S2' { v with T := T', ls := ls', nt := nt' } := by
  have hnew : ∀ a ∈ ({ v with T := T', ls := ls', nt := nt' } : WDat).all R dR Dd, a ∈ v.all R dR Dd ∨ h.get? a = none := fun a ha => by
    rcases all_cases ha with h1 | ⟨e1, he1, h1⟩ | h1
    · rw [h1]; exact .inl all_R
    · rw [h1]; exact .inl (all_e he1)
    · rcases own_cases h1 with h1 | h1 | h1 | h1 | ⟨e1, he1, h1⟩ | ⟨e1, he1, h1⟩
      · rw [h1]; exact .inl (own_all own_dR)
      · rw [h1]; exact .inl (own_all own_SL)
      · rw [h1]; exact .inl (own_all own_Dd)
      · rw [h1]
        rcases hT' with h2 | h2
        · dsimp only; rw [h2]; exact .inl (own_all own_T)
        · exact .inr h2
      · rw [h1]; exact .inl (own_all (own_e he1))
      · rw [h1]
        rcases hls e1 he1 with ⟨e0, h0, h2⟩ | h2
        · rw [h2]; exact .inl (own_all (own_l h0))
        · exact .inr h2
  have hno := W.noo
  obtain ⟨rw, lw, d1, d2, d3, d4, st, no, av, pr⟩ := W
  obtain ⟨⟨oD, hD, hoD⟩, hT, hE2, hnd, hne2⟩ := lw
  have rw0 := rw
  obtain ⟨⟨q, t, hR, hdR⟩, hL, hE, n1, n2, hne⟩ := rw0
  have hcD := hoD.cls
  refine ⟨rw.congr fun b o hb e => k b o (fun hm => ?_) e, lw', d1, d2, ?_, fun e he => ?_, keepBut_stays st k fun a ha => ?_, fun a ha => ?_, fun a ha => ?_, fun a ha => ?_⟩
  · have key : ∀ {c : Addr} {oc : Obj}, h.get? c = some oc → oc.cls ≠ .type "list" → c ≠ Dd → c ∈ M → False := fun {c oc} hc hcl hcD2 hm => by
      rcases hM c hm with h1 | h1 | ⟨e1, he1, h1⟩
      · exact hcD2 h1
      · exact ne_of_cls hc hT hcl h1
      · obtain ⟨t2, c2, hx2⟩ := hE2 e1 he1
        exact ne_of_cls hc hx2 hcl h1
    rcases hb with rfl | rfl | rfl | ⟨e1, he1, rfl | rfl⟩
    · exact key hR (by simp) (ne_of_cls hR hD (by rw [hcD]; simp)) hm
    · exact key hdR (by simp) d1 hm
    · rcases hM _ hm with h1 | h1 | ⟨e1, he1, h1⟩
      · exact ne_of_cls hL hD (by rw [hcD]; simp) h1
      · exact d3 h1
      · exact d4 e1 he1 h1.symm
    · obtain ⟨q, t, a, b⟩ := hE e1 he1
      exact key a (by simp) (ne_of_cls a hD (by rw [hcD]; simp)) hm
    · obtain ⟨q, t, a, b⟩ := hE e1 he1
      exact key b (by simp) (d2 e1 he1) hm
  · rcases hT' with h1 | h1
    · dsimp only; rw [h1]; exact d3
    · exact fun q => absent_ne h1 hL q.symm
  · rcases hls e he with ⟨e0, h0, h1⟩ | h1
    · rw [h1]; exact d4 e0 h0
    · exact absent_ne h1 hL
  · rcases hM a ha with h1 | h1 | ⟨e1, he1, h1⟩
    · rw [h1]; exact hno _ own_Dd
    · rw [h1]; exact hno _ own_T
    · rw [h1]; exact hno _ (own_l he1)
  · rcases hnew a ha with h1 | h1
    · exact no a h1
    · exact none_old st h1
  · rcases hnew a ha with h1 | h1
    · exact av a h1
    · intro hv
      obtain ⟨o, ho⟩ := pr a hv
      rw [h1] at ho; cases ho
  · obtain ⟨o, ho⟩ := pr a ha
    refine ⟨o, k a o (fun hm => ?_) ho⟩
    rcases hM a hm with h1 | h1 | ⟨e1, he1, h1⟩
    · exact av a (by rw [h1]; exact own_all own_Dd) ha
    · exact av a (by rw [h1]; exact own_all own_T) ha
    · exact av a (by rw [h1]; exact own_all (own_l he1)) ha
end
end

section
theorem wNpLh0 : True := by
  k_with_none
  (k_with "np_omega" => (first
      | (with_reducible assumption)
      | omega -splitDisjunctions
      | ((with_reducible show @Ne Nat _ _); with_reducible refine Ne.symm ?_; with_reducible assumption)
      | (refine Nat.le_antisymm ?_ ?_ <;> omega -splitDisjunctions)
      | (refine Int.le_antisymm ?_ ?_ <;> omega -splitDisjunctions)
      | omega +splitDisjunctions))
  (k_with "np_mm" => (first
      | (simp (disch := (first | assumption | exact Int.le_of_lt (by assumption) | exact Int.not_lt.mp (by assumption) | omega)) only [Int.max_eq_right, Int.max_eq_left, Int.min_eq_right, Int.min_eq_left]; done)
      | omega))
  (k_with "np_lt" => (k_dflt (repeat (intro _)); k_dflt (refine Got.mk ?_)))
  (k_with "np_ne" => (first
      | (with_reducible refine Nat.ne_of_lt ?_; with_reducible assumption)
      | (with_reducible refine Nat.ne_of_gt ?_; with_reducible assumption)
      | (with_reducible assumption)
      | (with_reducible refine Ne.symm ?_; with_reducible assumption)
      | (refine neN ?_; (try dsimp only); omega)))
  (k_with "np_mem" => (first
      | ((repeat' (with_reducible first | exact List.Mem.head _ | refine List.Mem.tail _ ?_)); done)
      | (with_reducible assumption)
      | assumption))
  (k_with "ite" => (k_closed; k_dflt (first | refine ite_pos (by decide) ?_ | refine ite_neg (by decide) ?_)))
  (k_with "callWith ref" => (k_here; k_dflt (first | (refine' callWith_K ?k1_q ?k2_q ?_; (case k1_q => k_asm); (case k2_q => k_is); k_whole) | (refine' callWith_K0 ?k1_q ?k2_q ?_; (case k1_q => exact Frag.In.keeps (by k_asm) (Fr.keep (by k_asm))); (case k2_q => k_is); k_whole))))
  (k_with "CompEnd" => (with_reducible refine haltIt ?_))
  (k_with "CompSrc" => (with_reducible refine haltIt ?_))
  (k_with "CompSrcT" => (with_reducible refine haltIt ?_))
  (k_with "np_inst" => (first
      | (refine' InstAt.of_base ?F_q ?h1_q ?h2_q; (case F_q => k_asm); (case h1_q => k_asm); (case h2_q => k_asm))
      | (refine' InstAt.of_mixed ?F_q ?h1_q ?N_q ?h2_q; (case F_q => k_asm); (case h1_q => k_asm); (case N_q => k_asm); (case h2_q => k_mem))))
  (k_with "execs cons" => (k_here; (try (with_reducible refine gentok ?_; intro _)); (with_reducible refine wpAny_execs_cons ?_); (try dsimp only); (try k_fold)))
  (k_with "execs nil" => (k_here; with_reducible refine gentok ?_; intro _))
  (k_with "np_handed" => (exact handed_opt _ _))
  (k_with "np_enter" => (case ho => k_dflt k_is); (case hcd => k_dflt k_is); (try (case hr => (first | omega | (dsimp only; omega)))); (case hbind => first | exact BindsTo.of_eq rfl | (refine' binds_K ?bx_q ?b1_q ?b2_q ?b3_q ?b4_q ?b5_q; (case bx_q => assumption); (case b1_q => exact rfl); (case b2_q => k_dflt k_is); (case b3_q => exact rfl); (case b4_q => exact rfl); (case b5_q => exact rfl))); (case hloc => exact locs rfl); (case ha => exact rfl); (case hb => exact rfl); (case hc => exact rfl); (case hd => decide))
  (k_with "np_enterX" => (case ho => k_dflt k_is); (case hcd => k_dflt k_is); (try (case hr => (first | omega | (dsimp only; omega)))); (case hbind => first | exact BindsTo.of_eq rfl | (refine' binds_K ?bx_q ?b1_q ?b2_q ?b3_q ?b4_q ?b5_q; (case bx_q => assumption); (case b1_q => exact rfl); (case b2_q => k_dflt k_is); (case b3_q => exact rfl); (case b4_q => exact rfl); (case b5_q => exact rfl))); (case hkd => exact rfl); (case hnd => decide +kernel); (case ha => exact rfl); (case hb => exact rfl); (case hc => exact rfl))
  trivial
theorem mk_lw {w : World} {g h : Heap} {L Dd T : Addr} {o : Obj} {news : List (Addr × Obj)} {a b c i1 i2 i3 i4 : Int} {t0 t1 t3 t4 t5 t6 t7 : Tok} {nt : Nat} (N : News g L h news)
    (hD : o.IsDictOf (PySem.strKind Pg w) [(Str.ofString "many", .int a t0), (Str.ofString "least", .int b t1), (Str.ofString "streams", .ref T), (Str.ofString "stamp", .int i1 t3), (Str.ofString "hits", .int i2 t4), (Str.ofString "misses", .int i3 t5), (Str.ofString "asked", .int i4 t6), (Str.ofString "greatest", .int c t7)])
    (hm : (Dd, o) ∈ news) (hT : (T, listOf #[] nt) ∈ news) : LW w h Dd T ⟨a, b, c, i1, i2, i3, i4⟩ [] nt :=
  ⟨⟨o, N.get hm, fun i => match i with | 0 => t0 | 1 => t1 | 3 => t3 | 4 => t4 | 5 => t5 | 6 => t6 | _ => t7, hD⟩, N.get hT, fun _ h => (nomatch h), .nil, fun _ h => (nomatch h)⟩
theorem fr_two {g h : Heap} {L : Addr} {m : Str → Option Value} {a b : Str} {u v : Value} (F : Fr g L h m) (ea : m a = some u) (eb : m b = some v) : Fr g L h (fun y => if y = a then some u else if y = b then some v else m y) :=
  Fr.congr F fun y => by
    by_cases h1 : y = a
    · rw [if_pos h1, h1, ea]
    · rw [if_neg h1]
      by_cases h2 : y = b
      · rw [if_pos h2, h2, eb]
      · rw [if_neg h2]
/-- where the law's loop starts -/
noncomputable def LoopAt (w : World) (g : Heap) (L : Addr) (h : Heap) (sc : List Int) (S0 : Sc) : Prop :=
  ∃ (Dd R dR Dsc : Addr) (ws : List Value) (nsc : Nat) (m0 : Str → Option Value) (oA oM : Obj) (cv : Option Value) (ps : Array Value) (v : WDat), Fr g L h (fun y => if y = Str.ofString "state" then some (.ref Dd) else if y = Str.ofString "script" then some (.ref Dsc) else m0 y) ∧
    News g L h [(L + 1 + 1 + 1 + 1, oM), (L + 1, oA), (Dsc, listOf ws.toArray nsc), (227, tabObj ps)] ∧ oA.data = Data.cell (some (.ref R)) ∧ oM.data = Data.cell cv ∧ IntsAre ws sc ∧
    Wd w [L] g h R dR Dd S0 S0 v ∧ v.es = [] ∧ v.ls = [] ∧ @Ne Nat Dsc dR ∧ @Ne Nat Dsc v.SL ∧ @Ne Nat Dsc v.T ∧ @Ne Nat Dsc Dd
theorem mk_wd {w : World} {g h : Heap} {L R dR Dd T SL : Addr} {S0 : Sc} {nl nt : Nat} {m : Str → Option Value} {news : List (Addr × Obj)} (F : Fr g L h m) (N : News g L h news) (hR : RAt h R dR S0 SL) (hSL : h.get? SL = some (listOf #[] nl)) (hlw : LW w h Dd T S0 [] nt) (d1 : dR ≠ Dd) (d3 : SL ≠ T)
    (n1 : g.get? dR = none) (n2 : g.get? SL = none) (n3 : g.get? Dd = none) (n4 : g.get? T = none) (n5 : g.get? R = none) (m1 : R ≠ L) (m2 : dR ≠ L) (m3 : SL ≠ L) (m4 : Dd ≠ L) (m5 : T ≠ L) : Wd w [L] g h R dR Dd S0 S0 ⟨SL, [], nl, T, [], nt⟩ :=
  ⟨⟨hR, hSL, fun _ h => (nomatch h), .nil, .nil, fun _ h => (nomatch h)⟩, hlw, d1, fun _ h => (nomatch h), d3, fun _ h => (nomatch h), F.keep, fun a ha => by
    rcases all_cases ha with h | ⟨e, he, _⟩ | ha
    · rw [h]; exact n5
    · exact (nomatch he)
    rcases own_cases ha with h | h | h | h | ⟨e, he, _⟩ | ⟨e, he, _⟩
    · rw [h]; exact n1
    · rw [h]; exact n2
    · rw [h]; exact n3
    · rw [h]; exact n4
    · exact (nomatch he)
    · exact (nomatch he), fun a ha hv => by
    rw [List.mem_singleton.mp hv] at ha
    rcases all_cases ha with h | ⟨e, he, _⟩ | ha
    · exact m1 h.symm
    · exact (nomatch he)
    rcases own_cases ha with h | h | h | h | ⟨e, he, _⟩ | ⟨e, he, _⟩
    · exact m2 h.symm
    · exact m3 h.symm
    · exact m4 h.symm
    · exact m5 h.symm
    · exact (nomatch he)
    · exact (nomatch he), fun a ha => by
    obtain ⟨oL, _, _, hL, _⟩ := F.ns
    rw [List.mem_singleton.mp ha]; exact ⟨oL, hL⟩⟩
theorem mk_loop {w : World} {g h : Heap} {L Dd T Dsc R dR SL : Addr} {o oA oM : Obj} {m : Str → Option Value} {news : List (Addr × Obj)} {a b c : Int} {t0 t1 t3 t4 t5 t6 t7 : Tok} {nt nsc kR : Nat} {ws : List Value} {sc : List Int} {ps : Array Value} {cv : Option Value} {qR : Nat → Int × Tok} {tR : Nat → Tok}
    (hD : o.IsDictOf (PySem.strKind Pg w) [(Str.ofString "many", .int a t0), (Str.ofString "least", .int b t1), (Str.ofString "streams", .ref T), (Str.ofString "stamp", .int 0 t3), (Str.ofString "hits", .int 0 t4), (Str.ofString "misses", .int 0 t5), (Str.ofString "asked", .int 0 t6), (Str.ofString "greatest", .int c t7)])
    (F : Fr g L h m) (N : News g L h news) (e1 : m (Str.ofString "state") = some (.ref Dd)) (e2 : m (Str.ofString "script") = some (.ref Dsc)) (hI : IntsAre ws sc)
    (h1 : (Dd, o) ∈ news) (h2 : (T, listOf #[] nt) ∈ news) (h5 : (Dsc, listOf ws.toArray nsc) ∈ news) (h3 : (L + 1 + 1 + 1 + 1, oM) ∈ news) (h4 : (L + 1, oA) ∈ news) (h6 : (227, tabObj ps) ∈ news)
    (h7 : oA.data = Data.cell (some (.ref R))) (h8 : oM.data = Data.cell cv) (h9 : (R, instObj 180 dR) ∈ news) (h10 : (dR, dictOf (rEs qR tR ⟨a, b, c, 0, 0, 0, 0⟩ SL) 8) ∈ news) (h11 : (SL, listOf #[] kR) ∈ news)
    (n1 : @Ne Nat dR Dd) (n2 : @Ne Nat SL T) (n3 : @Ne Nat Dsc dR) (n4 : @Ne Nat Dsc SL) (n5 : @Ne Nat Dsc T) (n6 : @Ne Nat Dsc Dd) : LoopAt w g L h sc ⟨a, b, c, 0, 0, 0, 0⟩ :=
  ⟨Dd, R, dR, Dsc, ws, nsc, _, oA, oM, cv, ps, ⟨SL, [], kR, T, [], nt⟩, fr_two F e1 e2, List.forall_mem_cons.mpr ⟨N _ h3, List.forall_mem_cons.mpr ⟨N _ h4, List.forall_mem_cons.mpr ⟨N _ h5, List.forall_mem_singleton.mpr (N _ h6)⟩⟩⟩, h7, h8, hI,
    mk_wd F N ⟨qR, tR, N.get h9, N.get h10⟩ (N.get h11) (mk_lw N hD h1 h2) n1 n2 (N _ h10).2.2 (N _ h11).2.2 (N _ h1).2.2 (N _ h2).2.2 (N _ h9).2.2 (N _ h9).2.1 (N _ h10).2.1 (N _ h11).2.1 (N _ h1).2.1 (N _ h2).2.1, rfl, rfl, n3, n4, n5, n6⟩
end

section
theorem wNpSt0 : True := by
  k_with_none
  (k_with "np_omega" => (first
      | (with_reducible assumption)
      | omega -splitDisjunctions
      | ((with_reducible show @Ne Nat _ _); with_reducible refine Ne.symm ?_; with_reducible assumption)
      | (refine Nat.le_antisymm ?_ ?_ <;> omega -splitDisjunctions)
      | (refine Int.le_antisymm ?_ ?_ <;> omega -splitDisjunctions)
      | omega +splitDisjunctions))
  (k_with "np_mm" => (first
      | (simp (disch := (first | assumption | exact Int.le_of_lt (by assumption) | exact Int.not_lt.mp (by assumption) | omega)) only [Int.max_eq_right, Int.max_eq_left, Int.min_eq_right, Int.min_eq_left]; done)
      | omega))
  (k_with "np_lt" => (k_dflt (repeat (intro _)); k_dflt (refine Got.mk ?_)))
  (k_with "np_ne" => (first
      | (with_reducible refine Nat.ne_of_lt ?_; with_reducible assumption)
      | (with_reducible refine Nat.ne_of_gt ?_; with_reducible assumption)
      | (with_reducible assumption)
      | (with_reducible refine Ne.symm ?_; with_reducible assumption)
      | (refine neN ?_; (try dsimp only); omega)))
  (k_with "np_mem" => (first
      | ((repeat' (with_reducible first | exact List.Mem.head _ | refine List.Mem.tail _ ?_)); done)
      | (with_reducible assumption)
      | assumption))
  (k_with "ite" => (k_closed; k_dflt (first | refine ite_pos (by decide) ?_ | refine ite_neg (by decide) ?_)))
  (k_with "callWith ref" => (k_here; k_dflt (first | (refine' callWith_K ?k1_q ?k2_q ?_; (case k1_q => k_asm); (case k2_q => k_is); k_whole) | (refine' callWith_K0 ?k1_q ?k2_q ?_; (case k1_q => exact Frag.In.keeps (by k_asm) (Fr.keep (by k_asm))); (case k2_q => k_is); k_whole))))
  (k_with "CompEnd" => (with_reducible refine haltIt ?_))
  (k_with "CompSrc" => (with_reducible refine haltIt ?_))
  (k_with "CompSrcT" => (with_reducible refine haltIt ?_))
  (k_with "np_inst" => (first
      | (refine' InstAt.of_base ?F_q ?h1_q ?h2_q; (case F_q => k_asm); (case h1_q => k_asm); (case h2_q => k_asm))
      | (refine' InstAt.of_mixed ?F_q ?h1_q ?N_q ?h2_q; (case F_q => k_asm); (case h1_q => k_asm); (case N_q => k_asm); (case h2_q => k_mem))))
  (k_with "execs cons" => (k_here; (try (with_reducible refine gentok ?_; intro _)); (with_reducible refine wpAny_execs_cons ?_); (try dsimp only); (try k_fold)))
  (k_with "execs nil" => (k_here; with_reducible refine gentok ?_; intro _))
  (k_with "np_handed" => (exact handed_opt _ _))
  (k_with "np_enter" => (case ho => k_dflt k_is); (case hcd => k_dflt k_is); (try (case hr => (first | omega | (dsimp only; omega)))); (case hbind => first | exact BindsTo.of_eq rfl | (refine' binds_K ?bx_q ?b1_q ?b2_q ?b3_q ?b4_q ?b5_q; (case bx_q => assumption); (case b1_q => exact rfl); (case b2_q => k_dflt k_is); (case b3_q => exact rfl); (case b4_q => exact rfl); (case b5_q => exact rfl))); (case hloc => exact locs rfl); (case ha => exact rfl); (case hb => exact rfl); (case hc => exact rfl); (case hd => decide))
  (k_with "np_enterX" => (case ho => k_dflt k_is); (case hcd => k_dflt k_is); (try (case hr => (first | omega | (dsimp only; omega)))); (case hbind => first | exact BindsTo.of_eq rfl | (refine' binds_K ?bx_q ?b1_q ?b2_q ?b3_q ?b4_q ?b5_q; (case bx_q => assumption); (case b1_q => exact rfl); (case b2_q => k_dflt k_is); (case b3_q => exact rfl); (case b4_q => exact rfl); (case b5_q => exact rfl))); (case hkd => exact rfl); (case hnd => decide +kernel); (case ha => exact rfl); (case hb => exact rfl); (case hc => exact rfl))
  trivial
theorem takeWhile_all {α : Type} {p : α → Bool} : ∀ {l : List α} {x : α}, x ∈ l.takeWhile p → p x = true
  | [], _, h => nomatch h
  | a :: r, x, h => by
    rw [List.takeWhile_cons] at h
    split at h
    · rcases List.mem_cons.mp h with rfl | h
      · assumption
      · exact takeWhile_all h
    · exact nomatch h
theorem dropWhile_all {α : Type} {p : α → Bool} : ∀ {l : List α}, (∀ x ∈ l, p x = true) → l.dropWhile p = []
  | [], _ => rfl
  | a :: r, h => by
    rw [List.dropWhile_cons, if_pos (h a (.head _))]
    exact dropWhile_all fun x hx => h x (.tail _ hx)
/-- what the join keeps -/
noncomputable def kpF (τ e : St) : Bool := decide (e.stamp = τ.stamp) || !likeB e τ
/-- an access, on the data -/
noncomputable def stepF (S : Sc) (ss : List St) (b m : Int) (most : Option Int) : Sc × List St × List Int :=
  match ss.dropWhile (fun e => decide (wayTo e b m = 0)) with
  | σ :: post => ({ S with stamp := S.stamp + 1, hits := S.hits + 1, asked := S.asked + (accBs (accSt S σ b m) most).length },
      (ss.takeWhile (fun e => decide (wayTo e b m = 0))).filter (kpF (accSt S σ b m)) ++ aheadS (accSt S σ b m) (rOf (accSt S σ b m)) most :: post.filter (kpF (accSt S σ b m)), accBs (accSt S σ b m) most)
  | [] => if ss.any (fun e => hasB e b m) then ({ S with stamp := S.stamp + 1 }, ss, [])
      else ({ S with stamp := S.stamp + 1, misses := S.misses + 1 }, startF S.many ss ++ [⟨0, b, b + m, none, S.least, S.stamp + 1⟩], [])
theorem dropWhile_split {α : Type} {p : α → Bool} {l : List α} {a : α} {r : List α} (h : l.dropWhile p = a :: r) : l = l.takeWhile p ++ a :: r ∧ p a = false ∧ ∀ x ∈ l.takeWhile p, p x = true := by
  refine ⟨by rw [← h, List.takeWhile_append_dropWhile], ?_, fun x hx => takeWhile_all hx⟩
  have := List.head_dropWhile_not (p := p) (l := l) (by rw [h]; simp)
  simpa [h] using this
theorem dropWhile_nil {α : Type} {p : α → Bool} {l : List α} (h : l.dropWhile p = []) : ∀ x ∈ l, p x = true := by
  have e : l.takeWhile p = l := by
    have := List.takeWhile_append_dropWhile (p := p) (l := l)
    rwa [h, List.append_nil] at this
  intro x hx
  rw [← e] at hx
  exact takeWhile_all hx
theorem stepF_some {S : Sc} {pre post : List St} {σ : St} {b m : Int} {most : Option Int} (hp : ∀ e ∈ pre, wayTo e b m = 0) (hw : wayTo σ b m ≠ 0) :
    stepF S (pre ++ σ :: post) b m most = ({ S with stamp := S.stamp + 1, hits := S.hits + 1, asked := S.asked + (accBs (accSt S σ b m) most).length },
      pre.filter (kpF (accSt S σ b m)) ++ aheadS (accSt S σ b m) (rOf (accSt S σ b m)) most :: post.filter (kpF (accSt S σ b m)), accBs (accSt S σ b m) most) := by
  unfold stepF
  have h1 : (pre ++ σ :: post).dropWhile (fun e => decide (wayTo e b m = 0)) = σ :: post := by
    rw [List.dropWhile_append_of_pos (fun e he => by simpa using hp e he), List.dropWhile_cons_of_neg (by simpa using hw)]
  have h2 : (pre ++ σ :: post).takeWhile (fun e => decide (wayTo e b m = 0)) = pre := by
    rw [List.takeWhile_append_of_pos (fun e he => by simpa using hp e he), List.takeWhile_cons_of_neg (by simpa using hw), List.append_nil]
  rw [h1, h2]
theorem stepF_none {S : Sc} {ss : List St} {b m : Int} {most : Option Int} (hp : ∀ e ∈ ss, wayTo e b m = 0) :
    stepF S ss b m most = if ss.any (fun e => hasB e b m) then ({ S with stamp := S.stamp + 1 }, ss, []) else ({ S with stamp := S.stamp + 1, misses := S.misses + 1 }, startF S.many ss ++ [⟨0, b, b + m, none, S.least, S.stamp + 1⟩], []) := by
  unfold stepF
  have h1 : ss.dropWhile (fun e => decide (wayTo e b m = 0)) = [] := by
    exact dropWhile_all fun e he => by simpa using hp e he
  rw [h1]
/-- what holds of the streams between two turns -/
structure Inv (S : Sc) (ss : List St) (Z : Int) : Prop where
  many : 1 ≤ S.many ∧ S.many ≤ 4
  least : 1 ≤ S.least ∧ S.least ≤ S.greatest
  greatest : S.greatest ≤ 9
  len : (ss.length : Int) ≤ S.many
  ok : ∀ σ ∈ ss, Ok S σ ∧ σ.low ≤ Z ∧ σ.high ≤ Z ∧ ∀ r, σ.reached = some r → 0 ≤ r ∧ r ≤ Z + 12
theorem Inv.small {S : Sc} {ss : List St} {Z : Int} (I : Inv S ss Z) (hZ : Z ≤ 1000) {σ : St} (h : σ ∈ ss) : Small σ := by
  obtain ⟨⟨a, b, c, d, e⟩, f, g, i⟩ := I.ok σ h
  have := I.greatest
  exact ⟨by omega, by omega, by omega, fun r hr => by have := i r hr; omega⟩
/-- the law's step is Readahead's step -/
theorem law_some {S : Sc} {pre post : List St} {σ : St} {b m Z : Int} {most : Option Int} (I : Inv S (pre ++ σ :: post) Z) (hb : 0 ≤ b) (hm : 1 ≤ m) (hp : ∀ e ∈ pre, lawWay e b m = 0) (hw : lawWay σ b m ≠ 0) {BS : List Int} {σ' : St}
    (hBS : BS = lawBs (lawWay σ b m) (edgeOf (lawWay σ b m) b m) (reachOf σ (lawWay σ b m) (edgeOf (lawWay σ b m) b m)) (farOf S σ) most)
    (hσ' : σ' = ⟨lawWay σ b m, b, b + m, some (lastOf (lawWay σ b m) (reachOf σ (lawWay σ b m) (edgeOf (lawWay σ b m) b m)) BS), farOf S σ, S.stamp + 1⟩) :
    stepF S (pre ++ σ :: post) b m most = ({ S with stamp := S.stamp + 1, hits := S.hits + 1, asked := S.asked + (BS.length : Nat) },
      (pre ++ σ' :: post).filter (fun e => lawKeep (lawWay σ b m) (edgeOf (lawWay σ b m) b m) (S.stamp + 1) e), BS) := by
  have okw : ∀ e ∈ pre ++ σ :: post, e.way = 0 ∨ e.way = 1 ∨ e.way = -1 := fun e he => (I.ok e he).1.way
  have hσ := okw σ (by simp)
  have hok := (I.ok σ (by simp)).1
  have e1 : lawWay σ b m = wayTo σ b m := lawWay_eq hσ
  have hp' : ∀ e ∈ pre, wayTo e b m = 0 := fun e he => by rw [← lawWay_eq (okw e (List.mem_append_left _ he))]; exact hp e he
  rw [e1] at hw hBS hσ' ⊢
  have hbs : BS = accBs (accSt S σ b m) most := by rw [hBS, blocks_eq hok hb hm hw]
  rw [stepF_some hp' hw]
  have hs : σ' = aheadS (accSt S σ b m) (rOf (accSt S σ b m)) most := by
    rw [hσ', hbs, reach_eq hw]
    obtain ⟨a1, a2, a3⟩ := accSt_edge (S := S) (σ := σ) (b := b) (m := m)
    unfold aheadS
    have a4 := accSt_way S σ b m
    have a5 := accSt_far S σ b m
    cases hτ : accSt S σ b m
    rw [hτ] at a1 a2 a3 a4 a5
    simp only at a1 a2 a3 a4 a5
    subst a1 a2 a3 a4 a5
    rfl
  have hww : wayTo σ b m = 1 ∨ wayTo σ b m = -1 := by revert hw; unfold wayTo; (repeat' split) <;> simp
  obtain ⟨a1, a2, a3⟩ := accSt_edge (S := S) (σ := σ) (b := b) (m := m)
  have hk : ∀ e, (e.way = 0 ∨ e.way = 1 ∨ e.way = -1) → kpF (accSt S σ b m) e = lawKeep (wayTo σ b m) (edgeOf (wayTo σ b m) b m) (S.stamp + 1) e := fun e he => by
    have := keep_eq (τ := accSt S σ b m) (e := e) (by rw [accSt_way]; exact hww) he
    unfold kpF
    rw [this, accSt_way, a1, a2, a3]
    rfl
  have hself : lawKeep (wayTo σ b m) (edgeOf (wayTo σ b m) b m) (S.stamp + 1) σ' = true := by rw [hσ']; exact keepA rfl
  rw [List.filter_append, List.filter_cons_of_pos hself, hs, hbs]
  rw [List.filter_congr (fun e he => hk e (okw e (List.mem_append_left _ he))), List.filter_congr (fun e he => hk e (okw e (List.mem_append_right _ (.tail _ he))))]
theorem law_none {S : Sc} {ss : List St} {b m Z : Int} {most : Option Int} (I : Inv S ss Z) (hp : ∀ e ∈ ss, lawWay e b m = 0) :
    stepF S ss b m most = if ss.any (fun e => hasB e b m) then ({ S with stamp := S.stamp + 1 }, ss, []) else ({ S with stamp := S.stamp + 1, misses := S.misses + 1 }, (if (ss.length : Int) = S.many then dropStale ss else ss) ++ [⟨0, b, b + m, none, S.least, S.stamp + 1⟩], []) := by
  rw [stepF_none fun e he => by rw [← lawWay_eq (I.ok e he).1.way]; exact hp e he]
  have hl := I.len
  have : startF S.many ss = if (ss.length : Int) = S.many then dropStale ss else ss := by
    unfold startF
    by_cases h : (ss.length : Int) = S.many
    · rw [if_pos h, if_pos (by omega)]
    · rw [if_neg h, if_neg (by omega)]
  rw [this]
theorem dropStale_sub {ss : List St} : List.Sublist (dropStale ss) ss := List.eraseP_sublist
theorem minSt_mem2 {ss : List St} (h : ss ≠ []) : ∃ σ ∈ ss, σ.stamp = minSt ss := by
  cases ss with
  | nil => exact absurd rfl h
  | cons a r =>
    obtain ⟨h1, h2, h3⟩ := foldl_min_spec (fun σ : St => σ.stamp) r a.stamp
    rcases h3 with h3 | ⟨x, hx, h3⟩
    · exact ⟨a, .head _, h3.symm⟩
    · exact ⟨x, .tail _ hx, h3.symm⟩
theorem dropStale_len {ss : List St} (h : ss ≠ []) : (dropStale ss).length + 1 = ss.length := by
  obtain ⟨σ, hs, he⟩ := minSt_mem2 h
  unfold dropStale
  have := List.length_eraseP_of_mem (p := fun σ => decide (σ.stamp = minSt ss)) hs (by simpa using he)
  have h2 : 0 < ss.length := List.length_pos_iff.mpr h
  omega
theorem Inv.step {S : Sc} {ss : List St} {Z b m : Int} {most : Option Int} (I : Inv S ss Z) (hb : 0 ≤ b ∧ b ≤ Z) (hm : 1 ≤ m ∧ m ≤ 3) : Inv (stepF S ss b m most).1 (stepF S ss b m most).2.1 (Z + 3) := by
  obtain ⟨i1, i2, i3, i4, i5⟩ := I
  have mono : ∀ {S' : Sc} {σ : St}, S'.greatest = S.greatest → (Ok S σ ∧ σ.low ≤ Z ∧ σ.high ≤ Z ∧ ∀ r, σ.reached = some r → 0 ≤ r ∧ r ≤ Z + 12) → (Ok S' σ ∧ σ.low ≤ Z + 3 ∧ σ.high ≤ Z + 3 ∧ ∀ r, σ.reached = some r → 0 ≤ r ∧ r ≤ Z + 3 + 12) := fun {S' σ} hg h => by
    obtain ⟨⟨a, b, c, d, e⟩, f, g, k⟩ := h
    exact ⟨⟨a, b, by rw [hg]; exact c, d, e⟩, by omega, by omega, fun r hr => by have := k r hr; omega⟩
  cases hd : ss.dropWhile (fun e => decide (wayTo e b m = 0)) with
  | cons σ post =>
    obtain ⟨hs, h1, h2⟩ := dropWhile_split hd
    have hw : wayTo σ b m ≠ 0 := by simpa using h1
    have hp : ∀ e ∈ ss.takeWhile (fun e => decide (wayTo e b m = 0)), wayTo e b m = 0 := fun e he => by simpa using h2 e he
    obtain ⟨pre, hpre⟩ : ∃ pre, pre = ss.takeWhile (fun e => decide (wayTo e b m = 0)) := ⟨_, rfl⟩
    rw [← hpre] at hs hp
    subst hs
    rw [stepF_some hp hw]
    have hσ := i5 σ (by simp)
    have hww : wayTo σ b m = 1 ∨ wayTo σ b m = -1 := by revert hw; unfold wayTo; (repeat' split) <;> simp
    obtain ⟨a1, a2, a3⟩ := accSt_edge (S := S) (σ := σ) (b := b) (m := m)
    refine ⟨i1, i2, i3, ?_, fun e he => ?_⟩
    · dsimp only
      simp only [List.length_append, List.length_cons] at i4 ⊢
      have l1 := List.length_filter_le (kpF (accSt S σ b m)) pre
      have l2 := List.length_filter_le (kpF (accSt S σ b m)) post
      omega
    · dsimp only at he
      rcases List.mem_append.mp he with he | he
      · exact mono rfl (i5 e (List.mem_append_left _ (List.mem_filter.mp he).1))
      · rcases List.mem_cons.mp he with rfl | he
        · obtain ⟨⟨o1, o2, o3, o4, o5⟩, o6, o7, o8⟩ := hσ
          have hF : 1 ≤ farOf S σ ∧ farOf S σ ≤ S.greatest := by unfold farOf; split <;> omega
          have hr0 : 0 ≤ rOf (accSt S σ b m) ∧ rOf (accSt S σ b m) ≤ Z + 12 := by
            rw [accSt_rOf]
            split
            · split <;> omega
            · rename_i hne
              cases hr : σ.reached with
              | none => exact absurd hr (o2 hne)
              | some r => have := o8 r hr; unfold rOf; rw [hr]; exact this
          have hrv : 0 ≤ (if (accSt S σ b m).way = 1 then aheadE (accSt S σ b m) (rOf (accSt S σ b m)) most else aheadB (accSt S σ b m) (rOf (accSt S σ b m)) most) ∧ (if (accSt S σ b m).way = 1 then aheadE (accSt S σ b m) (rOf (accSt S σ b m)) most else aheadB (accSt S σ b m) (rOf (accSt S σ b m)) most) ≤ Z + 3 + 12 := by
            unfold aheadE aheadB
            rw [accSt_far, a1, a2]
            by_cases hw1 : (accSt S σ b m).way = 1
            · simp only [hw1, if_true]
              have q1 : max (b + m) (rOf (accSt S σ b m)) ≤ Z + 3 + 12 := Int.max_le.mpr ⟨by omega, by omega⟩
              have q0 : 0 ≤ max (b + m) (rOf (accSt S σ b m)) := Int.le_trans hr0.1 (Int.le_max_right _ _)
              have q2 : b + m + farOf S σ ≤ Z + 3 + 12 := by clear q1 q0; omega
              cases most with
              | none => exact ⟨Int.le_trans q0 (Int.le_max_left _ _), Int.max_le.mpr ⟨q1, q2⟩⟩
              | some q => exact ⟨Int.le_trans q0 (Int.le_max_left _ _), Int.max_le.mpr ⟨q1, Int.le_trans (Int.min_le_left _ _) q2⟩⟩
            · simp only [hw1, if_false]
              exact ⟨Int.le_min.mpr ⟨Int.le_min.mpr ⟨hb.1, hr0.1⟩, Int.le_max_left _ _⟩, Int.le_trans (Int.min_le_left _ _) (Int.le_trans (Int.min_le_left _ _) (by omega))⟩
          refine ⟨⟨?_, ?_, ?_, ?_, ?_⟩, ?_, ?_, ?_⟩
          · show (accSt S σ b m).way = 0 ∨ (accSt S σ b m).way = 1 ∨ (accSt S σ b m).way = -1
            rw [accSt_way]; exact .inr hww
          · intro _; unfold aheadS; simp
          · show 1 ≤ (accSt S σ b m).far ∧ (accSt S σ b m).far ≤ S.greatest
            rw [accSt_far]; exact hF
          · show 0 ≤ (accSt S σ b m).low
            rw [a1]; omega
          · show 0 ≤ (accSt S σ b m).high
            rw [a2]; omega
          · show (accSt S σ b m).low ≤ Z + 3
            rw [a1]; omega
          · show (accSt S σ b m).high ≤ Z + 3
            rw [a2]; omega
          · intro r hr
            have : r = (if (accSt S σ b m).way = 1 then aheadE (accSt S σ b m) (rOf (accSt S σ b m)) most else aheadB (accSt S σ b m) (rOf (accSt S σ b m)) most) := by
              unfold aheadS at hr; exact (Option.some.inj hr).symm
            rw [this]; exact hrv
        · exact mono rfl (i5 e (List.mem_append_right _ (.tail _ (List.mem_filter.mp he).1)))
  | nil =>
    have hp : ∀ e ∈ ss, wayTo e b m = 0 := fun e he => by simpa using dropWhile_nil hd e he
    rw [stepF_none hp]
    split
    · exact ⟨i1, i2, i3, i4, fun e he => mono rfl (i5 e he)⟩
    · refine ⟨i1, i2, i3, ?_, fun e he => ?_⟩
      · dsimp only
        unfold startF
        split
        · have hne : ss ≠ [] := by rintro rfl; simp at *; omega
          have := dropStale_len hne
          simp only [List.length_append, List.length_cons, List.length_nil]; omega
        · simp only [List.length_append, List.length_cons, List.length_nil]; omega
      · dsimp only at he
        rcases List.mem_append.mp he with he | he
        · refine mono rfl (i5 e ?_)
          unfold startF at he
          split at he
          · exact dropStale_sub.subset he
          · exact he
        · simp only [List.mem_singleton] at he
          subst he
          exact ⟨⟨.inl rfl, fun h => absurd rfl h, ⟨i2.1, i2.2⟩, hb.1, by dsimp only; omega⟩, by dsimp only; omega, by dsimp only; omega, fun r hr => nomatch hr⟩
theorem Inv.mono {S : Sc} {ss ss' : List St} {Z : Int} (I : Inv S ss Z) (h : ∀ e ∈ ss', e ∈ ss) (hl : ss'.length ≤ ss.length) : Inv S ss' Z := ⟨I.many, I.least, I.greatest, by have := I.len; omega, fun e he => I.ok e (h e he)⟩
theorem Inv.more {S : Sc} {ss : List St} {Z : Int} (I : Inv S ss Z) : Inv S ss (Z + 3) := ⟨I.many, I.least, I.greatest, I.len, fun e he => by
  obtain ⟨a, b, c, d⟩ := I.ok e he
  exact ⟨a, by omega, by omega, fun r hr => by have := d r hr; omega⟩⟩
theorem Inv.cut {S : Sc} {ss : List St} {Z most : Int} (I : Inv S ss Z) (hm : 0 ≤ most) : Inv S ((ss.filter fun e => decide (e.high ≤ most)).map (cutS most)) Z := by
  refine ⟨I.many, I.least, I.greatest, ?_, fun e he => ?_⟩
  · have := List.length_filter_le (fun e : St => decide (e.high ≤ most)) ss
    have h2 := I.len
    rw [List.length_map]; omega
  · obtain ⟨σ, hs, rfl⟩ := List.mem_map.mp he
    obtain ⟨⟨a, b, c, d, e⟩, f, g, k⟩ := I.ok σ (List.mem_filter.mp hs).1
    unfold cutS
    split
    · refine ⟨⟨a, fun h => ?_, c, d, e⟩, f, g, fun r hr => ?_⟩
      · dsimp only at h ⊢
        cases hr : σ.reached with
        | none => exact absurd hr (b h)
        | some r => simp
      · dsimp only at hr
        cases hr2 : σ.reached with
        | none => rw [hr2] at hr; exact nomatch hr
        | some r2 =>
          rw [hr2] at hr
          have := k r2 hr2
          simp only [Option.map_some, Option.some.injEq] at hr
          omega
    · exact ⟨⟨a, b, c, d, e⟩, f, g, k⟩
end

section
theorem wNpTn0 : True := by
  k_with_none
  (k_with "np_omega" => (first
      | (with_reducible assumption)
      | omega -splitDisjunctions
      | ((with_reducible show @Ne Nat _ _); with_reducible refine Ne.symm ?_; with_reducible assumption)
      | (refine Nat.le_antisymm ?_ ?_ <;> omega -splitDisjunctions)
      | (refine Int.le_antisymm ?_ ?_ <;> omega -splitDisjunctions)
      | omega +splitDisjunctions))
  (k_with "np_mm" => (first
      | (simp (disch := (first | assumption | exact Int.le_of_lt (by assumption) | exact Int.not_lt.mp (by assumption) | omega)) only [Int.max_eq_right, Int.max_eq_left, Int.min_eq_right, Int.min_eq_left]; done)
      | omega))
  (k_with "np_lt" => (k_dflt (repeat (intro _)); k_dflt (refine Got.mk ?_)))
  (k_with "np_ne" => (first
      | (with_reducible refine Nat.ne_of_lt ?_; with_reducible assumption)
      | (with_reducible refine Nat.ne_of_gt ?_; with_reducible assumption)
      | (with_reducible assumption)
      | (with_reducible refine Ne.symm ?_; with_reducible assumption)
      | (refine neN ?_; (try dsimp only); omega)))
  (k_with "np_mem" => (first
      | ((repeat' (with_reducible first | exact List.Mem.head _ | refine List.Mem.tail _ ?_)); done)
      | (with_reducible assumption)
      | assumption))
  (k_with "ite" => (k_closed; k_dflt (first | refine ite_pos (by decide) ?_ | refine ite_neg (by decide) ?_)))
  (k_with "callWith ref" => (k_here; k_dflt (first | (refine' callWith_K ?k1_q ?k2_q ?_; (case k1_q => k_asm); (case k2_q => k_is); k_whole) | (refine' callWith_K0 ?k1_q ?k2_q ?_; (case k1_q => exact Frag.In.keeps (by k_asm) (Fr.keep (by k_asm))); (case k2_q => k_is); k_whole))))
  (k_with "CompEnd" => (with_reducible refine haltIt ?_))
  (k_with "CompSrc" => (with_reducible refine haltIt ?_))
  (k_with "CompSrcT" => (with_reducible refine haltIt ?_))
  (k_with "np_inst" => (first
      | (refine' InstAt.of_base ?F_q ?h1_q ?h2_q; (case F_q => k_asm); (case h1_q => k_asm); (case h2_q => k_asm))
      | (refine' InstAt.of_mixed ?F_q ?h1_q ?N_q ?h2_q; (case F_q => k_asm); (case h1_q => k_asm); (case N_q => k_asm); (case h2_q => k_mem))))
  (k_with "execs cons" => (k_here; (try (with_reducible refine gentok ?_; intro _)); (with_reducible refine wpAny_execs_cons ?_); (try dsimp only); (try k_fold)))
  (k_with "execs nil" => (k_here; with_reducible refine gentok ?_; intro _))
  (k_with "np_handed" => (exact handed_opt _ _))
  (k_with "np_enter" => (case ho => k_dflt k_is); (case hcd => k_dflt k_is); (try (case hr => (first | omega | (dsimp only; omega)))); (case hbind => first | exact BindsTo.of_eq rfl | (refine' binds_K ?bx_q ?b1_q ?b2_q ?b3_q ?b4_q ?b5_q; (case bx_q => assumption); (case b1_q => exact rfl); (case b2_q => k_dflt k_is); (case b3_q => exact rfl); (case b4_q => exact rfl); (case b5_q => exact rfl))); (case hloc => exact locs rfl); (case ha => exact rfl); (case hb => exact rfl); (case hc => exact rfl); (case hd => decide))
  (k_with "np_enterX" => (case ho => k_dflt k_is); (case hcd => k_dflt k_is); (try (case hr => (first | omega | (dsimp only; omega)))); (case hbind => first | exact BindsTo.of_eq rfl | (refine' binds_K ?bx_q ?b1_q ?b2_q ?b3_q ?b4_q ?b5_q; (case bx_q => assumption); (case b1_q => exact rfl); (case b2_q => k_dflt k_is); (case b3_q => exact rfl); (case b4_q => exact rfl); (case b5_q => exact rfl))); (case hkd => exact rfl); (case hnd => decide +kernel); (case ha => exact rfl); (case hb => exact rfl); (case hc => exact rfl))
  trivial
theorem ints_no_ref {vs : List Value} {is : List Int} (h : IntsAre vs is) {x : Addr} : Value.ref x ∈ vs → False := by
  induction h with
  | nil => exact fun h => nomatch h
  | cons a t _ ih =>
    intro h
    rcases List.mem_cons.mp h with h | h
    · cases h
    · exact ih h
section
variable {w : World} {Av : List Addr} {A : Around} {s : Shared} {B : Heap} {Q E : Value → Shared → Prop} {R dR Dd : Addr} {S1 S2 : Sc} {v : WDat}
theorem es_split {es : List Ent} {pre post : List St} {σ : St} (h : es.map (·.2.2) = pre ++ σ :: post) : ∃ p x d q, es = p ++ (x, d, σ) :: q ∧ p.map (·.2.2) = pre ∧ q.map (·.2.2) = post := by
  obtain ⟨p, r, rfl, h1, h2⟩ := List.map_eq_append_iff.mp h
  obtain ⟨⟨x, d, τ⟩, q, rfl, h3, h4⟩ := List.map_eq_cons_iff.mp h2
  obtain rfl : τ = σ := h3
  exact ⟨p, x, d, q, rfl, h1, h4⟩
theorem ls_split {ls : List LEnt} {pre post : List St} {σ : St} (h : ls.map (·.2) = pre ++ σ :: post) : ∃ p x q, ls = p ++ (x, σ) :: q ∧ p.map (·.2) = pre ∧ q.map (·.2) = post := by
  obtain ⟨p, r, rfl, h1, h2⟩ := List.map_eq_append_iff.mp h
  obtain ⟨⟨x, τ⟩, q, rfl, h3, h4⟩ := List.map_eq_cons_iff.mp h2
  obtain rfl : τ = σ := h3
  exact ⟨p, x, q, rfl, h1, h4⟩
/-- an access to the object -/
theorem wd_acc1 {b m Z : Int} {most : Option Int} {tb tm ts : Tok} (G : Gr w B) (W : Wd w Av B s.heap R dR Dd S1 S2 v) (hA : A.handled = none) (hd : A.depth + 8 < recursionLimit) (hu : A.units + 16 < cLine) (I : Inv S1 (v.es.map (·.2.2)) Z) (hZ : Z ≤ 1000) (hb : 0 ≤ b ∧ b ≤ Z) (hm : 1 ≤ m ∧ m ≤ 3)
    (ret : ∀ h' tk c k vs v', Wd w Av B h' R dR Dd (stepF S1 (v.es.map (·.2.2)) b m most).1 S2 v' → v'.es.map (·.2.2) = (stepF S1 (v.es.map (·.2.2)) b m most).2.1 → v'.ls = v.ls → s.heap.get? c = none → h'.get? c = some (listOf (List.toArray vs) k) → IntsAre vs (stepF S1 (v.es.map (·.2.2)) b m most).2.2 → c ∉ v'.own dR Dd → Q (.ref c) { s with heap := h', toks := tk }) :
    wpAny (model Pg w) A (call (.ref 143) [.ref R, .int b tb, .int m tm, optV most ts]) Q E s := by
  have hlen : v.es.length ≤ 50 := by have h1 := I.len; have h2 := I.many; rw [List.length_map] at h1; omega
  have rw0 := W.rw
  obtain ⟨⟨q, t, hR, hdR⟩, hL, hE, n1, n2, hne⟩ := rw0
  have lw0 := W.lw
  obtain ⟨⟨oD, hD, hoD⟩, hT, hE2, hnd, hne2⟩ := lw0
  have hLf := W.noo _ own_SL
  have hRf := W.noo _ own_dR
  cases hdw : (v.es.map (·.2.2)).dropWhile (fun e => decide (wayTo e b m = 0)) with
  | cons σ post =>
    obtain ⟨hs, h1, h2⟩ := dropWhile_split hdw
    have hw : wayTo σ b m ≠ 0 := by simpa using h1
    have hp : ∀ e ∈ (v.es.map (·.2.2)).takeWhile (fun e => decide (wayTo e b m = 0)), wayTo e b m = 0 := fun e he => by simpa using h2 e he
    obtain ⟨pre, hpre⟩ : ∃ pre, pre = (v.es.map (·.2.2)).takeWhile (fun e => decide (wayTo e b m = 0)) := ⟨_, rfl⟩
    rw [← hpre] at hs hp
    obtain ⟨p, x, d, r, hes, hp1, hp2⟩ := es_split hs
    have hst := stepF_some (S := S1) (post := post) (most := most) hp hw
    rw [← hs] at hst
    rw [hst] at ret
    have hσ : σ ∈ v.es.map (·.2.2) := by rw [hs]; simp
    have hx := hE (x, d, σ) (by rw [hes]; simp)
    obtain ⟨qx, tx, hx1, hx2⟩ := hx
    have W1 := W.rw
    rw [hes] at W1
    have hsz := I.small hZ hσ
    have hgr := I.greatest
    have hl1 := I.least
    refine access_some (pre := p) (post := r) (x := x) (d := d) (σ := σ) G W.stays hA hd hu W1 (by rw [← hes]; exact hlen) hLf hRf (W.noo _ (own_e (e := (x, d, σ)) (by rw [hes]; simp))) hb.1 hm.1 (fun e he => hp _ (by rw [← hp1]; exact List.mem_map_of_mem (f := fun e : Ent => e.2.2) he)) hw ((I.ok σ hσ).1.reached) hsz (by omega) (by omega) (by omega)
      fun h' tk c n vs SL' k K hc hS' hcl hvs ⟨hRA, hSA, hSL⟩ => ?_
    have hsub : List.Sublist (p.filter (keepJ (accSt S1 σ b m)) ++ (x, d, aheadS (accSt S1 σ b m) (rOf (accSt S1 σ b m)) most) :: r.filter (keepJ (accSt S1 σ b m))) (p.filter (keepJ (accSt S1 σ b m)) ++ (x, d, aheadS (accSt S1 σ b m) (rOf (accSt S1 σ b m)) most) :: r.filter (keepJ (accSt S1 σ b m))) := List.Sublist.refl _
    obtain ⟨es', hes'⟩ : ∃ es', es' = p.filter (keepJ (accSt S1 σ b m)) ++ (x, d, aheadS (accSt S1 σ b m) (rOf (accSt S1 σ b m)) most) :: r.filter (keepJ (accSt S1 σ b m)) := ⟨_, rfl⟩
    have s1 : List.Sublist (es'.map (·.1)) (v.es.map (·.1)) := by
      rw [hes', hes, List.map_append, List.map_append, List.map_cons, List.map_cons]
      exact (List.filter_sublist.map _).append ((List.filter_sublist.map _).cons₂ _)
    have s2 : List.Sublist (es'.map (·.2.1)) (v.es.map (·.2.1)) := by
      rw [hes', hes, List.map_append, List.map_append, List.map_cons, List.map_cons]
      exact (List.filter_sublist.map _).append ((List.filter_sublist.map _).cons₂ _)
    have hin : ∀ e ∈ es', e = (x, d, aheadS (accSt S1 σ b m) (rOf (accSt S1 σ b m)) most) ∨ (e ∈ p ∨ e ∈ r) := fun e he => by
      rw [hes'] at he
      rcases List.mem_append.mp he with he | he
      · exact .inr (.inl (List.mem_filter.mp he).1)
      · rcases List.mem_cons.mp he with he | he
        · exact .inl he
        · exact .inr (.inr (List.mem_filter.mp he).1)
    have hd2 : ∀ e, (e ∈ p ∨ e ∈ r) → e.2.1 ≠ d := fun e he hq => by
      rw [hes, List.map_append, List.map_cons, List.nodup_append] at n2
      rcases he with he | he
      · exact n2.2.2 _ (List.mem_map_of_mem (f := fun e : Ent => e.2.1) he) _ (.head _) hq
      · have := (List.nodup_cons.mp n2.2.1).1
        rw [show (x, d, σ).2.1 = d from rfl, ← hq] at this
        exact this (List.mem_map_of_mem (f := fun e : Ent => e.2.1) he)
    have hmem : ∀ e, (e ∈ p ∨ e ∈ r) → e ∈ v.es := fun e he => by
      rw [hes]
      rcases he with he | he
      · exact List.mem_append_left _ he
      · exact List.mem_append_right _ (.tail _ he)
    have rw' : RW h' R dR SL' { S1 with stamp := S1.stamp + 1, hits := S1.hits + 1, asked := S1.asked + (accBs (accSt S1 σ b m) most).length } es' k := by
      refine ⟨hRA, by rw [hes']; exact hSL, fun e he => ?_, n1.sublist s1, n2.sublist s2, fun e he => ?_⟩
      · rcases hin e he with rfl | he2
        · exact hSA
        · obtain ⟨q', t', a, b'⟩ := hE e (hmem e he2)
          refine ⟨q', t', K _ _ ?_ a, K _ _ ?_ b'⟩
          · intro hm'
            simp only [List.mem_cons, List.not_mem_nil, or_false] at hm'
            rcases hm' with h | h
            · exact ne_of_cls a hdR (by simp) h
            · exact ne_of_cls a hx2 (by simp) h
          · intro hm'
            simp only [List.mem_cons, List.not_mem_nil, or_false] at hm'
            rcases hm' with h | h
            · exact hne e (hmem e he2) h
            · exact hd2 e he2 h
      · rcases hin e he with rfl | he2
        · exact hne (x, d, σ) (by rw [hes]; simp)
        · exact hne e (hmem e he2)
    have W' := W.putR K (fun a ha => by
      simp only [List.mem_cons, List.not_mem_nil, or_false] at ha
      rcases ha with h | h
      · exact .inl h
      · exact .inr (.inr ⟨(x, d, σ), by rw [hes]; simp, h⟩)) rw' (.inr hS') (fun e he => by
      rcases hin e he with rfl | he2
      · exact .inl ⟨(x, d, σ), by rw [hes]; simp, rfl, rfl⟩
      · exact .inl ⟨e, hmem e he2, rfl, rfl⟩)
    refine ret h' tk c n vs _ W' ?_ rfl hc hcl hvs fun ho => ?_
    · dsimp only
      rw [hes', List.map_append, List.map_cons, ← hp1, ← hp2]
      congr 1
      · rw [List.filter_map]; rfl
      · congr 1
        rw [List.filter_map]; rfl
    · rcases own_cases ho with h | h | h | h | ⟨e, he, h⟩ | ⟨e, he, h⟩
      · exact absent_ne hc hdR h
      · dsimp only at h
        rw [h, hSL] at hcl
        have := congrArg (fun o : Option Obj => o.map (·.data)) hcl
        simp only [Option.map_some, Option.some.injEq, Data.seq.injEq] at this
        have h2 := congrArg Array.toList this.1
        simp only [refsE, List.map_append, List.map_cons] at h2
        have h3 : Value.ref x ∈ vs := by rw [← h2]; simp
        exact ints_no_ref hvs h3
      · exact absent_ne hc hD h
      · exact absent_ne hc hT h
      · dsimp only at he
        rcases hin e he with rfl | he2
        · exact absent_ne hc hx2 h
        · obtain ⟨q', t', a, b'⟩ := hE e (hmem e he2)
          exact absent_ne hc b' h
      · obtain ⟨t2, c2, hx3⟩ := hE2 e he
        exact absent_ne hc hx3 h
  | nil =>
    have hp : ∀ e ∈ v.es.map (·.2.2), wayTo e b m = 0 := fun e he => by simpa using dropWhile_nil hdw e he
    have hf : findE v.es b m = none := by
      unfold findE
      rw [List.find?_eq_none]
      exact fun e he => by simpa using hp _ (List.mem_map_of_mem (f := fun e : Ent => e.2.2) he)
    have hst := stepF_none (S := S1) (most := most) hp
    have hany : (v.es.map (·.2.2)).any (fun e => hasB e b m) = v.es.any fun e => hasB e.2.2 b m := by rw [List.any_map]; rfl
    rw [hany] at hst
    have hown : ∀ {c : Addr} {es' : List Ent} {SL' : Addr} {nl' : Nat}, s.heap.get? c = none → SL' = v.SL → (∀ e ∈ es', e ∈ v.es ∨ c ≠ e.2.1) → c ∉ ({ v with SL := SL', es := es', nl := nl' } : WDat).own dR Dd := fun {c es' SL' nl'} hc h1 h2 ho => by
      rcases own_cases ho with h | h | h | h | ⟨e, he, h⟩ | ⟨e, he, h⟩
      · exact absent_ne hc hdR h
      · dsimp only at h; rw [h1] at h; exact absent_ne hc hL h
      · exact absent_ne hc hD h
      · exact absent_ne hc hT h
      · rcases h2 e he with h3 | h3
        · obtain ⟨q', t', a, b'⟩ := hE e h3
          exact absent_ne hc b' h
        · exact h3 h
      · obtain ⟨t2, c2, hx3⟩ := hE2 e he
        exact absent_ne hc hx3 h
    cases hk : v.es.any fun e => hasB e.2.2 b m with
    | true =>
      rw [hk, if_pos rfl] at hst
      rw [hst] at ret
      refine access_none G W.stays hA hd hu W.rw hlen I.many.1 hLf hRf hb.1 hm.1 hf (fun _ h' tk c n K hc hcl hRA => ?_) (fun hn => Bool.noConfusion (hk.symm.trans hn))
      have rw' : RW h' R dR v.SL { S1 with stamp := S1.stamp + 1 } v.es v.nl := by
        refine ⟨hRA, K _ _ (fun h => by simp only [List.mem_singleton] at h; exact ne_of_cls hL hdR (by simp) h) hL, fun e he => ?_, n1, n2, hne⟩
        obtain ⟨q', t', a, b'⟩ := hE e he
        exact ⟨q', t', K _ _ (fun h => by simp only [List.mem_singleton] at h; exact ne_of_cls a hdR (by simp) h) a, K _ _ (fun h => by simp only [List.mem_singleton] at h; exact hne e he h) b'⟩
      have W' := W.putR K (fun a ha => by simp only [List.mem_singleton] at ha; exact .inl ha) rw' (.inl rfl) (fun e he => .inl ⟨e, he, rfl, rfl⟩)
      exact ret h' tk c n [] _ W' rfl rfl hc hcl .nil (hown hc rfl fun e he => .inl he)
    | false =>
      rw [hk, if_neg (by simp)] at hst
      rw [hst] at ret
      refine access_none G W.stays hA hd hu W.rw hlen I.many.1 hLf hRf hb.1 hm.1 hf (fun hn => Bool.noConfusion (hk.symm.trans hn)) fun _ h' tk c n es' k x d K hc hcl hRA hx hd0 hSL hSA hsub hes' => ?_
      have hin : ∀ e ∈ es' ++ [(x, d, (⟨0, b, b + m, none, S1.least, S1.stamp + 1⟩ : St))], e ∈ v.es ∨ e = (x, d, ⟨0, b, b + m, none, S1.least, S1.stamp + 1⟩) := fun e he => by
        rcases List.mem_append.mp he with he | he
        · exact .inl (hsub.subset he)
        · exact .inr (List.mem_singleton.mp he)
      have hold : ∀ e ∈ v.es, StAt h' e.1 e.2.1 e.2.2 := fun e he => by
        obtain ⟨q', t', a, b'⟩ := hE e he
        refine ⟨q', t', K _ _ ?_ a, K _ _ ?_ b'⟩
        · intro hm'
          simp only [List.mem_cons, List.not_mem_nil, or_false] at hm'
          rcases hm' with h | h
          · exact ne_of_cls a hdR (by simp) h
          · exact ne_of_cls a hL (by simp) h
        · intro hm'
          simp only [List.mem_cons, List.not_mem_nil, or_false] at hm'
          rcases hm' with h | h
          · exact hne e he h
          · exact ne_of_cls b' hL (by simp) h
      have rw' : RW h' R dR v.SL { S1 with stamp := S1.stamp + 1, misses := S1.misses + 1 } (es' ++ [(x, d, ⟨0, b, b + m, none, S1.least, S1.stamp + 1⟩)]) k := by
        refine ⟨hRA, hSL, fun e he => ?_, ?_, ?_, fun e he => ?_⟩
        · rcases hin e he with h | rfl
          · exact hold e h
          · exact hSA
        · rw [List.map_append, List.nodup_append]
          refine ⟨n1.sublist (hsub.map _), by simp, fun a ha b' hb' => ?_⟩
          obtain ⟨e, he, rfl⟩ := List.mem_map.mp ha
          simp only [List.map_cons, List.map_nil, List.mem_singleton] at hb'
          obtain ⟨q', t', a', b''⟩ := hE e (hsub.subset he)
          rw [hb']; exact fun h => absent_ne hx a' h.symm
        · rw [List.map_append, List.nodup_append]
          refine ⟨n2.sublist (hsub.map _), by simp, fun a ha b' hb' => ?_⟩
          obtain ⟨e, he, rfl⟩ := List.mem_map.mp ha
          simp only [List.map_cons, List.map_nil, List.mem_singleton] at hb'
          obtain ⟨q', t', a', b''⟩ := hE e (hsub.subset he)
          rw [hb']; exact fun h => absent_ne hd0 b'' h.symm
        · rcases hin e he with h | rfl
          · exact hne e h
          · exact absent_ne hd0 hdR
      have W' := W.putR K (fun a ha => by
        simp only [List.mem_cons, List.not_mem_nil, or_false] at ha
        rcases ha with h | h
        · exact .inl h
        · exact .inr (.inl h)) rw' (.inl rfl) (fun e he => by
        rcases hin e he with h | rfl
        · exact .inl ⟨e, h, rfl, rfl⟩
        · exact .inr ⟨hx, hd0⟩)
      refine ret h' tk c n [] _ W' ?_ rfl hc hcl .nil (hown hc rfl fun e he => ?_)
      · dsimp only
        rw [List.map_append, hes']; rfl
      · rcases hin e he with h | rfl
        · exact .inl h
        · refine .inr fun h => ?_
          obtain ⟨q', t', a', b''⟩ := hSA
          exact ne_of_cls hcl b'' (by simp) h
end
end

section
theorem wNpTo0 : True := by
  k_with_none
  (k_with "np_omega" => (first
      | (with_reducible assumption)
      | omega -splitDisjunctions
      | ((with_reducible show @Ne Nat _ _); with_reducible refine Ne.symm ?_; with_reducible assumption)
      | (refine Nat.le_antisymm ?_ ?_ <;> omega -splitDisjunctions)
      | (refine Int.le_antisymm ?_ ?_ <;> omega -splitDisjunctions)
      | omega +splitDisjunctions))
  (k_with "np_mm" => (first
      | (simp (disch := (first | assumption | exact Int.le_of_lt (by assumption) | exact Int.not_lt.mp (by assumption) | omega)) only [Int.max_eq_right, Int.max_eq_left, Int.min_eq_right, Int.min_eq_left]; done)
      | omega))
  (k_with "np_lt" => (k_dflt (repeat (intro _)); k_dflt (refine Got.mk ?_)))
  (k_with "np_ne" => (first
      | (with_reducible refine Nat.ne_of_lt ?_; with_reducible assumption)
      | (with_reducible refine Nat.ne_of_gt ?_; with_reducible assumption)
      | (with_reducible assumption)
      | (with_reducible refine Ne.symm ?_; with_reducible assumption)
      | (refine neN ?_; (try dsimp only); omega)))
  (k_with "np_mem" => (first
      | ((repeat' (with_reducible first | exact List.Mem.head _ | refine List.Mem.tail _ ?_)); done)
      | (with_reducible assumption)
      | assumption))
  (k_with "ite" => (k_closed; k_dflt (first | refine ite_pos (by decide) ?_ | refine ite_neg (by decide) ?_)))
  (k_with "callWith ref" => (k_here; k_dflt (first | (refine' callWith_K ?k1_q ?k2_q ?_; (case k1_q => k_asm); (case k2_q => k_is); k_whole) | (refine' callWith_K0 ?k1_q ?k2_q ?_; (case k1_q => exact Frag.In.keeps (by k_asm) (Fr.keep (by k_asm))); (case k2_q => k_is); k_whole))))
  (k_with "CompEnd" => (with_reducible refine haltIt ?_))
  (k_with "CompSrc" => (with_reducible refine haltIt ?_))
  (k_with "CompSrcT" => (with_reducible refine haltIt ?_))
  (k_with "np_inst" => (first
      | (refine' InstAt.of_base ?F_q ?h1_q ?h2_q; (case F_q => k_asm); (case h1_q => k_asm); (case h2_q => k_asm))
      | (refine' InstAt.of_mixed ?F_q ?h1_q ?N_q ?h2_q; (case F_q => k_asm); (case h1_q => k_asm); (case N_q => k_asm); (case h2_q => k_mem))))
  (k_with "execs cons" => (k_here; (try (with_reducible refine gentok ?_; intro _)); (with_reducible refine wpAny_execs_cons ?_); (try dsimp only); (try k_fold)))
  (k_with "execs nil" => (k_here; with_reducible refine gentok ?_; intro _))
  (k_with "np_handed" => (exact handed_opt _ _))
  (k_with "np_enter" => (case ho => k_dflt k_is); (case hcd => k_dflt k_is); (try (case hr => (first | omega | (dsimp only; omega)))); (case hbind => first | exact BindsTo.of_eq rfl | (refine' binds_K ?bx_q ?b1_q ?b2_q ?b3_q ?b4_q ?b5_q; (case bx_q => assumption); (case b1_q => exact rfl); (case b2_q => k_dflt k_is); (case b3_q => exact rfl); (case b4_q => exact rfl); (case b5_q => exact rfl))); (case hloc => exact locs rfl); (case ha => exact rfl); (case hb => exact rfl); (case hc => exact rfl); (case hd => decide))
  (k_with "np_enterX" => (case ho => k_dflt k_is); (case hcd => k_dflt k_is); (try (case hr => (first | omega | (dsimp only; omega)))); (case hbind => first | exact BindsTo.of_eq rfl | (refine' binds_K ?bx_q ?b1_q ?b2_q ?b3_q ?b4_q ?b5_q; (case bx_q => assumption); (case b1_q => exact rfl); (case b2_q => k_dflt k_is); (case b3_q => exact rfl); (case b4_q => exact rfl); (case b5_q => exact rfl))); (case hkd => exact rfl); (case hnd => decide +kernel); (case ha => exact rfl); (case hb => exact rfl); (case hc => exact rfl))
  trivial
section
variable {w : World} {Av : List Addr} {A : Around} {s : Shared} {B : Heap} {Q E : Value → Shared → Prop} {R dR Dd : Addr} {S1 S2 : Sc} {v : WDat}
/-- an access to the law's own list -/
theorem wd_acc2 {b m Z : Int} {most : Option Int} {tb tm ts : Tok} (G : Gr w B) (W : Wd w Av B s.heap R dR Dd S1 S2 v) (hA : A.handled = none) (hd : A.depth + 8 < recursionLimit) (hu : A.units + 200 < cLine) (I : Inv S2 (v.ls.map (·.2)) Z) (hZ : Z ≤ 1000) (hb : 0 ≤ b ∧ b ≤ Z) (hm : 1 ≤ m ∧ m ≤ 3)
    (ret : ∀ h' tk c k vs v', Wd w Av B h' R dR Dd S1 (stepF S2 (v.ls.map (·.2)) b m most).1 v' → v'.ls.map (·.2) = (stepF S2 (v.ls.map (·.2)) b m most).2.1 → v'.es = v.es → s.heap.get? c = none → h'.get? c = some (listOf (List.toArray vs) k) → IntsAre vs (stepF S2 (v.ls.map (·.2)) b m most).2.2 → Q (.ref c) { s with heap := h', toks := tk }) :
    wpAny (model Pg w) A (call (.ref 196) [.ref Dd, .int b tb, .int m tm, optV most ts]) Q E s := by
  have hlen : v.ls.length ≤ 50 := by have h1 := I.len; have h2 := I.many; rw [List.length_map] at h1; omega
  have lw0 := W.lw
  obtain ⟨⟨oD, hD, hoD⟩, hT, hE2, hnd, hne2⟩ := lw0
  have hcD := hoD.cls
  have hfD := W.noo _ own_Dd
  have hfT := W.noo _ own_T
  cases hdw : (v.ls.map (·.2)).dropWhile (fun e => decide (wayTo e b m = 0)) with
  | cons σ post =>
    obtain ⟨hs, h1, h2⟩ := dropWhile_split hdw
    have hw : wayTo σ b m ≠ 0 := by simpa using h1
    have hp : ∀ e ∈ (v.ls.map (·.2)).takeWhile (fun e => decide (wayTo e b m = 0)), wayTo e b m = 0 := fun e he => by simpa using h2 e he
    obtain ⟨pre, hpre⟩ : ∃ pre, pre = (v.ls.map (·.2)).takeWhile (fun e => decide (wayTo e b m = 0)) := ⟨_, rfl⟩
    rw [← hpre] at hs hp
    obtain ⟨p, x, r, hls, hp1, hp2⟩ := ls_split hs
    have hσ : σ ∈ v.ls.map (·.2) := by rw [hs]; simp
    have hway : ∀ e ∈ v.ls.map (·.2), lawWay e b m = wayTo e b m := fun e he => lawWay_eq (I.ok e he).1.way
    have hpl : ∀ e ∈ pre, lawWay e b m = 0 := fun e he => by rw [hway e (by rw [hs]; exact List.mem_append_left _ he)]; exact hp e he
    have hwl : lawWay σ b m ≠ 0 := by rw [hway σ hσ]; exact hw
    have W1 := W.lw
    rw [hls] at W1
    have hgr := I.greatest
    have hl1 := I.least
    have hxm : (x, σ) ∈ v.ls := by rw [hls]; simp
    refine law_access_some (pre := p) (post := r) (x := x) (σ := σ) G W.stays hA hd hu W1 (by rw [← hls]; exact hlen) hfD hfT (W.noo _ (own_l hxm)) (fun e he => hpl _ (by rw [← hp1]; exact List.mem_map_of_mem (f := fun e : LEnt => e.2) he)) hwl ((I.ok σ hσ).1.reached) (I.small hZ hσ) (by omega)
      fun h' tk c k o T' kT ys BS σ' hBS hσ' K hc hcl hvs hDo hDI hT' hTl hxl => ?_
    have hst := law_some (most := most) (hs ▸ I) hb.1 hm.1 hpl hwl hBS hσ'
    rw [← hs] at hst
    rw [hst] at ret
    obtain ⟨ls', hls'⟩ : ∃ ls', ls' = (p ++ (x, σ') :: r).filter fun e => lawKeep (lawWay σ b m) (edgeOf (lawWay σ b m) b m) (S2.stamp + 1) e.2 := ⟨_, rfl⟩
    rw [← hls'] at hTl
    have s1 : List.Sublist (ls'.map (·.1)) (v.ls.map (·.1)) := by
      rw [hls', hls, show (p ++ (x, σ) :: r).map (·.1) = (p ++ (x, σ') :: r).map (·.1) by simp]
      exact List.filter_sublist.map _
    have hin : ∀ e ∈ ls', e = (x, σ') ∨ (e ∈ p ∨ e ∈ r) := fun e he => by
      rw [hls'] at he
      rcases List.mem_append.mp (List.mem_filter.mp he).1 with he | he
      · exact .inr (.inl he)
      · rcases List.mem_cons.mp he with he | he
        · exact .inl he
        · exact .inr (.inr he)
    have hmem : ∀ e, (e ∈ p ∨ e ∈ r) → e ∈ v.ls := fun e he => by
      rw [hls]
      rcases he with he | he
      · exact List.mem_append_left _ he
      · exact List.mem_append_right _ (.tail _ he)
    have hx2 : ∀ e, (e ∈ p ∨ e ∈ r) → e.1 ≠ x := fun e he hq => by
      rw [hls, List.map_append, List.map_cons, List.nodup_append] at hnd
      rcases he with he | he
      · exact hnd.2.2 _ (List.mem_map_of_mem (f := fun e : LEnt => e.1) he) _ (.head _) hq
      · have := (List.nodup_cons.mp hnd.2.1).1
        rw [show (x, σ).1 = x from rfl, ← hq] at this
        exact this (List.mem_map_of_mem (f := fun e : LEnt => e.1) he)
    have lw' : LW w h' Dd T' { S2 with stamp := S2.stamp + 1, hits := S2.hits + 1, asked := S2.asked + (BS.length : Nat) } ls' kT := by
      refine ⟨⟨o, hDo, hDI⟩, hTl, fun e he => ?_, hnd.sublist s1, fun e he => ?_⟩
      · rcases hin e he with rfl | he2
        · exact hxl
        · obtain ⟨t2, c2, hx3⟩ := hE2 e (hmem e he2)
          refine ⟨t2, c2, K _ _ (fun hm' => ?_) hx3⟩
          simp only [List.mem_cons, List.not_mem_nil, or_false] at hm'
          rcases hm' with h | h
          · exact ne_of_cls hx3 hD (by rw [hcD]; simp) h
          · exact hx2 e he2 h
      · rcases hin e he with rfl | he2
        · obtain ⟨t2, c2, hx3⟩ := hE2 (x, σ) hxm
          exact fun q => absent_ne hT' hx3 q.symm
        · obtain ⟨t2, c2, hx3⟩ := hE2 e (hmem e he2)
          exact fun q => absent_ne hT' hx3 q.symm
    have W' := W.putL K (fun a ha => by
      simp only [List.mem_cons, List.not_mem_nil, or_false] at ha
      rcases ha with h | h
      · exact .inl h
      · exact .inr (.inr ⟨(x, σ), hxm, h⟩)) lw' (.inr hT') (fun e he => by
      rcases hin e he with rfl | he2
      · exact .inl ⟨(x, σ), hxm, rfl⟩
      · exact .inl ⟨e, hmem e he2, rfl⟩)
    refine ret h' tk c k ys _ W' ?_ rfl hc hcl hvs
    dsimp only
    rw [hls', ← hp1, ← hp2, show List.map (fun x => x.2) p ++ σ' :: List.map (fun x => x.2) r = (p ++ (x, σ') :: r).map (·.2) by simp, List.filter_map]
    rfl
  | nil =>
    have hp : ∀ e ∈ v.ls.map (·.2), wayTo e b m = 0 := fun e he => by simpa using dropWhile_nil hdw e he
    have hpl : ∀ e ∈ v.ls.map (·.2), lawWay e b m = 0 := fun e he => by rw [lawWay_eq (I.ok e he).1.way]; exact hp e he
    have hpl2 : ∀ e ∈ v.ls, lawWay e.2 b m = 0 := fun e he => hpl _ (List.mem_map_of_mem (f := fun e : LEnt => e.2) he)
    have hst := law_none (most := most) I hpl
    have hany : (v.ls.map (·.2)).any (fun e => hasB e b m) = v.ls.any fun e => hasB e.2 b m := by rw [List.any_map]; rfl
    rw [hany] at hst
    cases hk : v.ls.any fun e => hasB e.2 b m with
    | true =>
      rw [hk, if_pos rfl] at hst
      rw [hst] at ret
      refine law_access_none G W.stays hA hd hu W.lw hlen hfD hfT hpl2 (fun e he => W.noo _ (own_l he)) I.many.1 (fun _ h' tk c k o K hc hcl hDo hDI => ?_) (fun hn => Bool.noConfusion (hk.symm.trans hn))
      have lw' : LW w h' Dd v.T { S2 with stamp := S2.stamp + 1 } v.ls v.nt := by
        refine ⟨⟨o, hDo, hDI⟩, K _ _ (fun h => by simp only [List.mem_singleton] at h; exact ne_of_cls hT hD (by rw [hcD]; simp) h) hT, fun e he => ?_, hnd, hne2⟩
        obtain ⟨t2, c2, hx3⟩ := hE2 e he
        exact ⟨t2, c2, K _ _ (fun h => by simp only [List.mem_singleton] at h; exact ne_of_cls hx3 hD (by rw [hcD]; simp) h) hx3⟩
      have W' := W.putL K (fun a ha => by simp only [List.mem_singleton] at ha; exact .inl ha) lw' (.inl rfl) (fun e he => .inl ⟨e, he, rfl⟩)
      exact ret h' tk c k [] _ W' rfl rfl hc hcl .nil
    | false =>
      rw [hk, if_neg (by simp)] at hst
      rw [hst] at ret
      refine law_access_none G W.stays hA hd hu W.lw hlen hfD hfT hpl2 (fun e he => W.noo _ (own_l he)) I.many.1 (fun hn => Bool.noConfusion (hk.symm.trans hn)) fun _ h' tk c k o ls' x k2 K hc hcl hDo hDI hx hTl hxl hsub hls' => ?_
      have hin : ∀ e ∈ ls' ++ [(x, (⟨0, b, b + m, none, S2.least, S2.stamp + 1⟩ : St))], e ∈ v.ls ∨ e = (x, ⟨0, b, b + m, none, S2.least, S2.stamp + 1⟩) := fun e he => by
        rcases List.mem_append.mp he with he | he
        · exact .inl (hsub.subset he)
        · exact .inr (List.mem_singleton.mp he)
      have lw' : LW w h' Dd v.T { S2 with stamp := S2.stamp + 1, misses := S2.misses + 1 } (ls' ++ [(x, ⟨0, b, b + m, none, S2.least, S2.stamp + 1⟩)]) k2 := by
        refine ⟨⟨o, hDo, hDI⟩, hTl, fun e he => ?_, ?_, fun e he => ?_⟩
        · rcases hin e he with h | rfl
          · obtain ⟨t2, c2, hx3⟩ := hE2 e h
            refine ⟨t2, c2, K _ _ (fun hm' => ?_) hx3⟩
            simp only [List.mem_cons, List.not_mem_nil, or_false] at hm'
            rcases hm' with h5 | h5
            · exact ne_of_cls hx3 hD (by rw [hcD]; simp) h5
            · exact hne2 e h h5
          · exact hxl
        · rw [List.map_append, List.nodup_append]
          refine ⟨hnd.sublist (hsub.map _), by simp, fun a ha b' hb' => ?_⟩
          obtain ⟨e, he, rfl⟩ := List.mem_map.mp ha
          simp only [List.map_cons, List.map_nil, List.mem_singleton] at hb'
          obtain ⟨t2, c2, hx3⟩ := hE2 e (hsub.subset he)
          rw [hb']; exact fun h => absent_ne hx hx3 h.symm
        · rcases hin e he with h | rfl
          · exact hne2 e h
          · exact absent_ne hx hT
      have W' := W.putL K (fun a ha => by
        simp only [List.mem_cons, List.not_mem_nil, or_false] at ha
        rcases ha with h | h
        · exact .inl h
        · exact .inr (.inl h)) lw' (.inl rfl) (fun e he => by
        rcases hin e he with h | rfl
        · exact .inl ⟨e, h, rfl⟩
        · exact .inr hx)
      refine ret h' tk c k [] _ W' ?_ rfl hc hcl .nil
      dsimp only
      rw [List.map_append, hls', List.length_map]; rfl
/-- cut, on both sides -/
theorem wd_cut1 {most : Int} {tm : Tok} {Z : Int} (G : Gr w B) (W : Wd w Av B s.heap R dR Dd S1 S2 v) (hA : A.handled = none) (hd : A.depth + 8 < recursionLimit) (hu : A.units + 16 < cLine) (I : Inv S1 (v.es.map (·.2.2)) Z)
    (ret : ∀ h' tk v', Wd w Av B h' R dR Dd S1 S2 v' → v'.es.map (·.2.2) = ((v.es.map (·.2.2)).filter fun e => decide (e.high ≤ most)).map (cutS most) → v'.ls = v.ls → Q .none { s with heap := h', toks := tk }) :
    wpAny (model Pg w) A (call (.ref 167) [.ref R, .int most tm]) Q E s := by
  have hlen : v.es.length ≤ 50 := by have h1 := I.len; have h2 := I.many; rw [List.length_map] at h1; omega
  obtain ⟨hRA, hL, hE, n1, n2, hne⟩ := W.rw
  refine cut_spec G W.stays hA hd hu W.rw hlen (W.noo _ own_SL) (W.noo _ own_dR) (fun e he => W.noo _ (own_e he)) (fun e he => (I.ok _ (List.mem_map_of_mem (f := fun e : Ent => e.2.2) he)).1.reached) fun h' tk SL' k K hS' hRA' hSL hEs => ?_
  have hin : ∀ e ∈ (v.es.filter fun e => decide (e.2.2.high ≤ most)).map (cutE most), ∃ e0 ∈ v.es, e.1 = e0.1 ∧ e.2.1 = e0.2.1 := fun e he => by
    obtain ⟨e0, h0, rfl⟩ := List.mem_map.mp he
    exact ⟨e0, (List.mem_filter.mp h0).1, rfl, rfl⟩
  have m1 : ((v.es.filter fun e => decide (e.2.2.high ≤ most)).map (cutE most)).map (·.1) = (v.es.filter fun e => decide (e.2.2.high ≤ most)).map (·.1) := by rw [List.map_map]; rfl
  have m2 : ((v.es.filter fun e => decide (e.2.2.high ≤ most)).map (cutE most)).map (·.2.1) = (v.es.filter fun e => decide (e.2.2.high ≤ most)).map (·.2.1) := by rw [List.map_map]; rfl
  have rw' : RW h' R dR SL' S1 ((v.es.filter fun e => decide (e.2.2.high ≤ most)).map (cutE most)) k :=
    ⟨hRA', hSL, hEs, by rw [m1]; exact n1.sublist (List.filter_sublist.map _), by rw [m2]; exact n2.sublist (List.filter_sublist.map _), fun e he => by obtain ⟨e0, h0, _, h2⟩ := hin e he; rw [h2]; exact hne e0 h0⟩
  have W' := W.putR K (fun a ha => by
    rcases List.mem_cons.mp ha with h | h
    · exact .inl h
    · obtain ⟨e, he, rfl⟩ := List.mem_map.mp h
      exact .inr (.inr ⟨e, he, rfl⟩)) rw' (.inr hS') (fun e he => by obtain ⟨e0, h0, h1, h2⟩ := hin e he; exact .inl ⟨e0, h0, h1, h2⟩)
  refine ret h' tk _ W' ?_ rfl
  dsimp only
  rw [List.map_map, List.filter_map, List.map_map]; rfl
theorem wd_cut2 {most : Int} {tm : Tok} {Z : Int} (G : Gr w B) (W : Wd w Av B s.heap R dR Dd S1 S2 v) (hA : A.handled = none) (hd : A.depth + 8 < recursionLimit) (I : Inv S2 (v.ls.map (·.2)) Z)
    (ret : ∀ h' tk v', Wd w Av B h' R dR Dd S1 S2 v' → v'.ls.map (·.2) = ((v.ls.map (·.2)).filter fun e => decide (e.high ≤ most)).map (cutS most) → v'.es = v.es → Q .none { s with heap := h', toks := tk }) :
    wpAny (model Pg w) A (call (.ref 213) [.ref Dd, .int most tm]) Q E s := by
  have hlen : v.ls.length ≤ 50 := by have h1 := I.len; have h2 := I.many; rw [List.length_map] at h1; omega
  obtain ⟨hDo0, hT, hE2, hnd, hne2⟩ := W.lw
  refine law_cut_spec G W.stays hA hd W.lw hlen (W.noo _ own_Dd) (W.noo _ own_T) (fun e he => W.noo _ (own_l he)) (fun e he => (I.ok _ (List.mem_map_of_mem (f := fun e : LEnt => e.2) he)).1.reached) fun h' tk T' o k K hT' hDo hDI hTl hLs => ?_
  have hin : ∀ e ∈ (v.ls.filter fun e => decide (e.2.high ≤ most)).map (cutLE most), ∃ e0 ∈ v.ls, e.1 = e0.1 := fun e he => by
    obtain ⟨e0, h0, rfl⟩ := List.mem_map.mp he
    exact ⟨e0, (List.mem_filter.mp h0).1, rfl⟩
  have m1 : ((v.ls.filter fun e => decide (e.2.high ≤ most)).map (cutLE most)).map (·.1) = (v.ls.filter fun e => decide (e.2.high ≤ most)).map (·.1) := by rw [List.map_map]; rfl
  have lw' : LW w h' Dd T' S2 ((v.ls.filter fun e => decide (e.2.high ≤ most)).map (cutLE most)) k :=
    ⟨⟨o, hDo, hDI⟩, hTl, hLs, by rw [m1]; exact hnd.sublist (List.filter_sublist.map _), fun e he => by
      obtain ⟨e0, h0, h2⟩ := hin e he
      obtain ⟨t2, c2, hx3⟩ := hE2 e0 h0
      rw [h2]; exact fun q => absent_ne hT' hx3 q.symm⟩
  have W' := W.putL K (fun a ha => by
    rcases List.mem_cons.mp ha with h | h
    · exact .inl h
    · obtain ⟨e, he, rfl⟩ := List.mem_map.mp h
      exact .inr (.inr ⟨e, he, rfl⟩)) lw' (.inr hT') (fun e he => by obtain ⟨e0, h0, h2⟩ := hin e he; exact .inl ⟨e0, h0, h2⟩)
  refine ret h' tk _ W' ?_ rfl
  dsimp only
  rw [List.map_map, List.filter_map, List.map_map]; rfl
/-- age, on both sides -/
theorem wd_age1 {st : Int} {tm : Tok} {Z : Int} (G : Gr w B) (W : Wd w Av B s.heap R dR Dd S1 S2 v) (hA : A.handled = none) (hd : A.depth + 8 < recursionLimit) (I : Inv S1 (v.es.map (·.2.2)) Z)
    (ret : ∀ h' tk v' t, Wd w Av B h' R dR Dd S1 S2 v' → v'.es.map (·.2.2) = ((v.es.map (·.2.2)).filter fun e => decide (S1.stamp - e.stamp < st)) → v'.ls = v.ls →
      Q (.int (((v.es.map (·.2.2)).length : Int) - (((v.es.map (·.2.2)).filter fun e => decide (S1.stamp - e.stamp < st)).length : Int)) t) { s with heap := h', toks := tk }) :
    wpAny (model Pg w) A (call (.ref 172) [.ref R, .int st tm]) Q E s := by
  have hlen : v.es.length ≤ 50 := by have h1 := I.len; have h2 := I.many; rw [List.length_map] at h1; omega
  obtain ⟨hRA, hL, hE, n1, n2, hne⟩ := W.rw
  obtain ⟨q, t, hR, hdR⟩ := hRA
  refine age_spec G W.stays hA hd W.rw hlen (W.noo _ own_SL) (W.noo _ own_dR) fun h' tk SL' k t K hS' hRA' hSL => ?_
  have hin : ∀ e ∈ (v.es.filter fun e => decide (S1.stamp - e.2.2.stamp < st)), e ∈ v.es := fun e he => (List.mem_filter.mp he).1
  have rw' : RW h' R dR SL' S1 (v.es.filter fun e => decide (S1.stamp - e.2.2.stamp < st)) k :=
    ⟨hRA', hSL, fun e he => by
      obtain ⟨q', t', a, b'⟩ := hE e (hin e he)
      exact ⟨q', t', K _ _ (fun h => by simp only [List.mem_singleton] at h; exact ne_of_cls a hdR (by simp) h) a, K _ _ (fun h => by simp only [List.mem_singleton] at h; exact hne e (hin e he) h) b'⟩, n1.sublist (List.filter_sublist.map _), n2.sublist (List.filter_sublist.map _), fun e he => hne e (hin e he)⟩
  have W' := W.putR K (fun a ha => by simp only [List.mem_singleton] at ha; exact .inl ha) rw' (.inr hS') (fun e he => .inl ⟨e, hin e he, rfl, rfl⟩)
  have hfe : ((v.es.map (·.2.2)).filter fun e => decide (S1.stamp - e.stamp < st)) = (v.es.filter fun e => decide (S1.stamp - e.2.2.stamp < st)).map (·.2.2) := by rw [List.filter_map]; rfl
  have := ret h' tk _ t W' (by dsimp only; rw [hfe]) rfl
  rw [hfe, List.length_map, List.length_map] at this
  exact this
theorem wd_age2 {st : Int} {tm : Tok} {Z : Int} (G : Gr w B) (W : Wd w Av B s.heap R dR Dd S1 S2 v) (hA : A.handled = none) (hd : A.depth + 8 < recursionLimit) (I : Inv S2 (v.ls.map (·.2)) Z)
    (ret : ∀ h' tk v' t, Wd w Av B h' R dR Dd S1 S2 v' → v'.ls.map (·.2) = ((v.ls.map (·.2)).filter fun e => decide (S2.stamp - e.stamp < st)) → v'.es = v.es →
      Q (.int (((v.ls.map (·.2)).length : Int) - (((v.ls.map (·.2)).filter fun e => decide (S2.stamp - e.stamp < st)).length : Int)) t) { s with heap := h', toks := tk }) :
    wpAny (model Pg w) A (call (.ref 218) [.ref Dd, .int st tm]) Q E s := by
  have hlen : v.ls.length ≤ 50 := by have h1 := I.len; have h2 := I.many; rw [List.length_map] at h1; omega
  obtain ⟨⟨oD, hD, hoD⟩, hT, hE2, hnd, hne2⟩ := W.lw
  have hcD := hoD.cls
  refine law_age_spec G W.stays hA hd W.lw hlen (W.noo _ own_Dd) (W.noo _ own_T) fun h' tk T' o k t K hT' hDo hDI hTl => ?_
  have hin : ∀ e ∈ (v.ls.filter fun e => decide (S2.stamp < e.2.stamp + st)), e ∈ v.ls := fun e he => (List.mem_filter.mp he).1
  have lw' : LW w h' Dd T' S2 (v.ls.filter fun e => decide (S2.stamp < e.2.stamp + st)) k :=
    ⟨⟨o, hDo, hDI⟩, hTl, fun e he => by
      obtain ⟨t2, c2, hx3⟩ := hE2 e (hin e he)
      exact ⟨t2, c2, K _ _ (fun h => by simp only [List.mem_singleton] at h; exact ne_of_cls hx3 hD (by rw [hcD]; simp) h) hx3⟩, hnd.sublist (List.filter_sublist.map _), fun e he => by
      obtain ⟨t2, c2, hx3⟩ := hE2 e (hin e he)
      exact fun q => absent_ne hT' hx3 q.symm⟩
  have W' := W.putL K (fun a ha => by simp only [List.mem_singleton] at ha; exact .inl ha) lw' (.inr hT') (fun e he => .inl ⟨e, hin e he, rfl⟩)
  have hfe : ((v.ls.map (·.2)).filter fun e => decide (S2.stamp - e.stamp < st)) = (v.ls.filter fun e => decide (S2.stamp < e.2.stamp + st)).map (·.2) := by
    rw [List.filter_map]
    congr 1
    refine List.filter_congr fun e he => ?_
    rw [Bool.eq_iff_iff]; simp only [Function.comp, decide_eq_true_eq]; omega
  have := ret h' tk _ t W' (by dsimp only; rw [hfe]) rfl
  rw [hfe, List.length_map, List.length_map] at this
  exact this
end
end

section
theorem wNpOp0 : True := by
  k_with_none
  (k_with "np_omega" => (first
      | (with_reducible assumption)
      | omega -splitDisjunctions
      | ((with_reducible show @Ne Nat _ _); with_reducible refine Ne.symm ?_; with_reducible assumption)
      | (refine Nat.le_antisymm ?_ ?_ <;> omega -splitDisjunctions)
      | (refine Int.le_antisymm ?_ ?_ <;> omega -splitDisjunctions)
      | omega +splitDisjunctions))
  (k_with "np_mm" => (first
      | (simp (disch := (first | assumption | exact Int.le_of_lt (by assumption) | exact Int.not_lt.mp (by assumption) | omega)) only [Int.max_eq_right, Int.max_eq_left, Int.min_eq_right, Int.min_eq_left]; done)
      | omega))
  (k_with "np_lt" => (k_dflt (repeat (intro _)); k_dflt (refine Got.mk ?_)))
  (k_with "np_ne" => (first
      | (with_reducible refine Nat.ne_of_lt ?_; with_reducible assumption)
      | (with_reducible refine Nat.ne_of_gt ?_; with_reducible assumption)
      | (with_reducible assumption)
      | (with_reducible refine Ne.symm ?_; with_reducible assumption)
      | (refine neN ?_; (try dsimp only); omega)))
  (k_with "np_mem" => (first
      | ((repeat' (with_reducible first | exact List.Mem.head _ | refine List.Mem.tail _ ?_)); done)
      | (with_reducible assumption)
      | assumption))
  (k_with "ite" => (k_closed; k_dflt (first | refine ite_pos (by decide) ?_ | refine ite_neg (by decide) ?_)))
  (k_with "callWith ref" => (k_here; k_dflt (first | (refine' callWith_K ?k1_q ?k2_q ?_; (case k1_q => k_asm); (case k2_q => k_is); k_whole) | (refine' callWith_K0 ?k1_q ?k2_q ?_; (case k1_q => exact Frag.In.keeps (by k_asm) (Fr.keep (by k_asm))); (case k2_q => k_is); k_whole))))
  (k_with "CompEnd" => (with_reducible refine haltIt ?_))
  (k_with "CompSrc" => (with_reducible refine haltIt ?_))
  (k_with "CompSrcT" => (with_reducible refine haltIt ?_))
  (k_with "np_inst" => (first
      | (refine' InstAt.of_base ?F_q ?h1_q ?h2_q; (case F_q => k_asm); (case h1_q => k_asm); (case h2_q => k_asm))
      | (refine' InstAt.of_mixed ?F_q ?h1_q ?N_q ?h2_q; (case F_q => k_asm); (case h1_q => k_asm); (case N_q => k_asm); (case h2_q => k_mem))))
  (k_with "execs cons" => (k_here; (try (with_reducible refine gentok ?_; intro _)); (with_reducible refine wpAny_execs_cons ?_); (try dsimp only); (try k_fold)))
  (k_with "execs nil" => (k_here; with_reducible refine gentok ?_; intro _))
  (k_with "np_handed" => (exact handed_opt _ _))
  (k_with "np_enter" => (case ho => k_dflt k_is); (case hcd => k_dflt k_is); (try (case hr => (first | omega | (dsimp only; omega)))); (case hbind => first | exact BindsTo.of_eq rfl | (refine' binds_K ?bx_q ?b1_q ?b2_q ?b3_q ?b4_q ?b5_q; (case bx_q => assumption); (case b1_q => exact rfl); (case b2_q => k_dflt k_is); (case b3_q => exact rfl); (case b4_q => exact rfl); (case b5_q => exact rfl))); (case hloc => exact locs rfl); (case ha => exact rfl); (case hb => exact rfl); (case hc => exact rfl); (case hd => decide))
  (k_with "np_enterX" => (case ho => k_dflt k_is); (case hcd => k_dflt k_is); (try (case hr => (first | omega | (dsimp only; omega)))); (case hbind => first | exact BindsTo.of_eq rfl | (refine' binds_K ?bx_q ?b1_q ?b2_q ?b3_q ?b4_q ?b5_q; (case bx_q => assumption); (case b1_q => exact rfl); (case b2_q => k_dflt k_is); (case b3_q => exact rfl); (case b4_q => exact rfl); (case b5_q => exact rfl))); (case hkd => exact rfl); (case hnd => decide +kernel); (case ha => exact rfl); (case hb => exact rfl); (case hc => exact rfl))
  trivial
section
variable {w : World} {Av : List Addr} {A : Around} {s : Shared} {g : Heap} {L : Addr} {m : Str → Option Value} {nf : List (Addr × Obj)} {Q E : Value → Shared → Prop} {R dR Dd : Addr} {S1 S2 : Sc} {v : WDat}
theorem gr_of {B : Heap} (G : Gr w g) (k : g.StaysIn B) : Gr w B := ⟨G.X.keeps k, let ⟨a, b, c, T⟩ := G.T; ⟨a, b, c, T.keeps k⟩⟩
noncomputable abbrev baseOf (h : Heap) (R dR Dd : Addr) (v : WDat) : Heap := hideAll h ([] ++ v.all R dR Dd)
theorem base_stays {h : Heap} (W : Wd w Av g h R dR Dd S1 S2 v) : g.StaysIn (baseOf h R dR Dd v) := fun b o e => hideAll_get _ (W.stays b o e) fun hm => by
  rw [List.nil_append] at hm
  rw [W.no b hm] at e; cases e
theorem base_keep {h : Heap} {a : Addr} {o : Obj} (W : Wd w Av g h R dR Dd S1 S2 v) (ha : a ∈ Av) (e : h.get? a = some o) : (baseOf h R dR Dd v).get? a = some o := hideAll_get _ e fun hm => by
  rw [List.nil_append] at hm
  exact W.av a hm ha
theorem op_back {h h' : Heap} {S1' S2' : Sc} {v' : WDat} (F : Fr g L h m) (N : News g L h nf) (W : Wd w Av g h R dR Dd S1 S2 v) (hL : L ∈ Av) (hA : ∀ p ∈ nf, p.1 ∈ Av) (W' : Wd w Av (baseOf h R dR Dd v) h' R dR Dd S1' S2' v') :
    Fr g L h' m ∧ News g L h' nf ∧ Wd w Av g h' R dR Dd S1' S2' v' := by
  have st := base_stays W
  have st' : g.StaysIn h' := fun b o e => W'.stays b o (st b o e)
  refine ⟨?_, fun p hp => ⟨W'.stays _ _ (base_keep W (hA p hp) (N p hp).1), (N p hp).2⟩, W'.congr (fun _ _ _ e => e) st' (fun a ha => none_old st (W'.no a ha)) W'.av W'.pr⟩
  obtain ⟨oL, es, ep, hLo, r⟩ := F.ns
  exact ⟨⟨oL, es, ep, W'.stays _ _ (base_keep W hL hLo), r⟩, st', F.above⟩
theorem wd_list {h : Heap} {c : Addr} {o : Obj} (W : Wd w Av g h R dR Dd S1 S2 v) (hc : h.get? c = some o) (hcl : o.cls = .type "list") (hown : c ∉ v.own dR Dd) : c ∉ v.all R dR Dd := fun ha => by
  obtain ⟨q, t, hR, hdR⟩ := W.rw.r
  rcases all_cases ha with h1 | ⟨e, he, h1⟩ | h1
  · exact ne_of_cls hc hR (by rw [hcl]; simp) h1
  · obtain ⟨q', t', a, b⟩ := W.rw.e e he
    exact ne_of_cls hc a (by rw [hcl]; simp) h1
  · exact hown h1
theorem wd_more {h : Heap} {c : Addr} {o : Obj} (W : Wd w Av g h R dR Dd S1 S2 v) (hc : h.get? c = some o) (hn : c ∉ v.all R dR Dd) : Wd w (c :: Av) g h R dR Dd S1 S2 v :=
  W.congr (fun _ _ _ e => e) W.stays W.no (fun a ha hm => by
    rcases List.mem_cons.mp hm with h1 | h1
    · rw [h1] at ha; exact hn ha
    · exact W.av a ha h1) fun a ha => by
    rcases List.mem_cons.mp ha with h1 | h1
    · rw [h1]; exact ⟨o, hc⟩
    · exact W.pr a h1
theorem op_acc1 {b k Z : Int} {most : Option Int} {tb tm ts : Tok} (G : Gr w g) (F : Fr g L s.heap m) (N : News g L s.heap nf) (W : Wd w Av g s.heap R dR Dd S1 S2 v) (hL : L ∈ Av) (hAv : ∀ p ∈ nf, p.1 ∈ Av) (hA : A.handled = none) (hd : A.depth + 8 < recursionLimit) (hu : A.units + 16 < cLine) (I : Inv S1 (v.es.map (·.2.2)) Z) (hZ : Z ≤ 1000) (hb : 0 ≤ b ∧ b ≤ Z) (hm : 1 ≤ k ∧ k ≤ 3)
    (ret : ∀ h' tk c n vs v', Fr g L h' m → News g L h' ((c, listOf (List.toArray vs) n) :: nf) → Wd w (c :: Av) g h' R dR Dd (stepF S1 (v.es.map (·.2.2)) b k most).1 S2 v' → v'.es.map (·.2.2) = (stepF S1 (v.es.map (·.2.2)) b k most).2.1 → v'.ls = v.ls → IntsAre vs (stepF S1 (v.es.map (·.2.2)) b k most).2.2 → Q (.ref c) { s with heap := h', toks := tk }) :
    wpAny (model Pg w) A (call (.ref 143) [.ref R, .int b tb, .int k tm, optV most ts]) Q E s := by
  have st := base_stays W
  refine wd_acc1 (gr_of G st) (W.rebase []) hA hd hu I hZ hb hm fun h' tk c n vs v' W' hes hls hc hcl hvs hco => ?_
  obtain ⟨F', N', W2⟩ := op_back F N W hL hAv W'
  refine ret h' tk c n vs v' F' (fun p hp => ?_) (wd_more W2 hcl (wd_list W2 hcl rfl hco)) hes hls hvs
  rcases List.mem_cons.mp hp with rfl | hp
  · refine ⟨hcl, ?_, none_old W.stays hc⟩
    obtain ⟨o, ho⟩ := W.pr L hL
    exact absent_ne hc ho
  · exact N' p hp
theorem op_acc2 {b k Z : Int} {most : Option Int} {tb tm ts : Tok} (G : Gr w g) (F : Fr g L s.heap m) (N : News g L s.heap nf) (W : Wd w Av g s.heap R dR Dd S1 S2 v) (hL : L ∈ Av) (hAv : ∀ p ∈ nf, p.1 ∈ Av) (hA : A.handled = none) (hd : A.depth + 8 < recursionLimit) (hu : A.units + 200 < cLine) (I : Inv S2 (v.ls.map (·.2)) Z) (hZ : Z ≤ 1000) (hb : 0 ≤ b ∧ b ≤ Z) (hm : 1 ≤ k ∧ k ≤ 3)
    (ret : ∀ h' tk c n vs v', Fr g L h' m → News g L h' nf → h'.get? c = some (listOf (List.toArray vs) n) → Wd w Av g h' R dR Dd S1 (stepF S2 (v.ls.map (·.2)) b k most).1 v' → v'.ls.map (·.2) = (stepF S2 (v.ls.map (·.2)) b k most).2.1 → v'.es = v.es → IntsAre vs (stepF S2 (v.ls.map (·.2)) b k most).2.2 → Q (.ref c) { s with heap := h', toks := tk }) :
    wpAny (model Pg w) A (call (.ref 196) [.ref Dd, .int b tb, .int k tm, optV most ts]) Q E s := by
  have st := base_stays W
  refine wd_acc2 (gr_of G st) (W.rebase []) hA hd hu I hZ hb hm fun h' tk c n vs v' W' hls hes hc hcl hvs => ?_
  obtain ⟨F', N', W2⟩ := op_back F N W hL hAv W'
  exact ret h' tk c n vs v' F' N' hcl W2 hls hes hvs
theorem op_cut1 {most Z : Int} {tm : Tok} (G : Gr w g) (F : Fr g L s.heap m) (N : News g L s.heap nf) (W : Wd w Av g s.heap R dR Dd S1 S2 v) (hL : L ∈ Av) (hAv : ∀ p ∈ nf, p.1 ∈ Av) (hA : A.handled = none) (hd : A.depth + 8 < recursionLimit) (hu : A.units + 16 < cLine) (I : Inv S1 (v.es.map (·.2.2)) Z)
    (ret : ∀ h' tk v', Fr g L h' m → News g L h' nf → Wd w Av g h' R dR Dd S1 S2 v' → v'.es.map (·.2.2) = ((v.es.map (·.2.2)).filter fun e => decide (e.high ≤ most)).map (cutS most) → v'.ls = v.ls → Q .none { s with heap := h', toks := tk }) :
    wpAny (model Pg w) A (call (.ref 167) [.ref R, .int most tm]) Q E s := by
  have st := base_stays W
  refine wd_cut1 (gr_of G st) (W.rebase []) hA hd hu I fun h' tk v' W' hes hls => ?_
  obtain ⟨F', N', W2⟩ := op_back F N W hL hAv W'
  exact ret h' tk v' F' N' W2 hes hls
theorem op_cut2 {most Z : Int} {tm : Tok} (G : Gr w g) (F : Fr g L s.heap m) (N : News g L s.heap nf) (W : Wd w Av g s.heap R dR Dd S1 S2 v) (hL : L ∈ Av) (hAv : ∀ p ∈ nf, p.1 ∈ Av) (hA : A.handled = none) (hd : A.depth + 8 < recursionLimit) (I : Inv S2 (v.ls.map (·.2)) Z)
    (ret : ∀ h' tk v', Fr g L h' m → News g L h' nf → Wd w Av g h' R dR Dd S1 S2 v' → v'.ls.map (·.2) = ((v.ls.map (·.2)).filter fun e => decide (e.high ≤ most)).map (cutS most) → v'.es = v.es → Q .none { s with heap := h', toks := tk }) :
    wpAny (model Pg w) A (call (.ref 213) [.ref Dd, .int most tm]) Q E s := by
  have st := base_stays W
  refine wd_cut2 (gr_of G st) (W.rebase []) hA hd I fun h' tk v' W' hes hls => ?_
  obtain ⟨F', N', W2⟩ := op_back F N W hL hAv W'
  exact ret h' tk v' F' N' W2 hes hls
theorem op_age1 {st0 Z : Int} {tm : Tok} (G : Gr w g) (F : Fr g L s.heap m) (N : News g L s.heap nf) (W : Wd w Av g s.heap R dR Dd S1 S2 v) (hL : L ∈ Av) (hAv : ∀ p ∈ nf, p.1 ∈ Av) (hA : A.handled = none) (hd : A.depth + 8 < recursionLimit) (I : Inv S1 (v.es.map (·.2.2)) Z)
    (ret : ∀ h' tk v' t, Fr g L h' m → News g L h' nf → Wd w Av g h' R dR Dd S1 S2 v' → v'.es.map (·.2.2) = ((v.es.map (·.2.2)).filter fun e => decide (S1.stamp - e.stamp < st0)) → v'.ls = v.ls →
      Q (.int (((v.es.map (·.2.2)).length : Int) - (((v.es.map (·.2.2)).filter fun e => decide (S1.stamp - e.stamp < st0)).length : Int)) t) { s with heap := h', toks := tk }) :
    wpAny (model Pg w) A (call (.ref 172) [.ref R, .int st0 tm]) Q E s := by
  have st := base_stays W
  refine wd_age1 (gr_of G st) (W.rebase []) hA hd I fun h' tk v' t W' hes hls => ?_
  obtain ⟨F', N', W2⟩ := op_back F N W hL hAv W'
  exact ret h' tk v' t F' N' W2 hes hls
theorem op_age2 {st0 Z : Int} {tm : Tok} (G : Gr w g) (F : Fr g L s.heap m) (N : News g L s.heap nf) (W : Wd w Av g s.heap R dR Dd S1 S2 v) (hL : L ∈ Av) (hAv : ∀ p ∈ nf, p.1 ∈ Av) (hA : A.handled = none) (hd : A.depth + 8 < recursionLimit) (I : Inv S2 (v.ls.map (·.2)) Z)
    (ret : ∀ h' tk v' t, Fr g L h' m → News g L h' nf → Wd w Av g h' R dR Dd S1 S2 v' → v'.ls.map (·.2) = ((v.ls.map (·.2)).filter fun e => decide (S2.stamp - e.stamp < st0)) → v'.es = v.es →
      Q (.int (((v.ls.map (·.2)).length : Int) - (((v.ls.map (·.2)).filter fun e => decide (S2.stamp - e.stamp < st0)).length : Int)) t) { s with heap := h', toks := tk }) :
    wpAny (model Pg w) A (call (.ref 218) [.ref Dd, .int st0 tm]) Q E s := by
  have st := base_stays W
  refine wd_age2 (gr_of G st) (W.rebase []) hA hd I fun h' tk v' t W' hes hls => ?_
  obtain ⟨F', N', W2⟩ := op_back F N W hL hAv W'
  exact ret h' tk v' t F' N' W2 hes hls
theorem up_wd {h h' : Heap} (W : Wd w Av g h R dR Dd S1 S2 v) (u : Up h h') : Wd w Av g h' R dR Dd S1 S2 v :=
  W.congr (fun b o _ e => u b o e) (fun b o e => u b o (W.stays b o e)) W.no W.av fun a ha => let ⟨o, ho⟩ := W.pr a ha; ⟨o, u _ _ ho⟩
theorem op_plain1 {Z : Int} (G : Gr w g) (F : Fr g L s.heap m) (N : News g L s.heap nf) (W : Wd w Av g s.heap R dR Dd S1 S2 v) (hA : A.handled = none) (hd : A.depth + 3 < recursionLimit) (I : Inv S1 (v.es.map (·.2.2)) Z)
    (ret : ∀ h' tk c, Up s.heap h' → Fr g L h' m → News g L h' nf → Wd w Av g h' R dR Dd S1 S2 v → ReadsP h' (.ref c) (plainP S1 (v.es.map (·.2.2))) → Q (.ref c) { s with heap := h', toks := tk }) :
    wpAny (model Pg w) A (call (.ref 177) [.ref R]) Q E s := by
  have hlen : v.es.length ≤ 100 := by have h1 := I.len; have h2 := I.many; rw [List.length_map] at h1; omega
  refine plain_spec G W.stays hA hd W.rw.r W.rw.l hlen (W.noo _ own_SL) W.rw.e fun h' tk c U hc hr => ?_
  exact ret h' tk c U (F.keeps U) (N.grown U) (up_wd W U) hr
theorem op_plain2 {Z : Int} (G : Gr w g) (F : Fr g L s.heap m) (N : News g L s.heap nf) (W : Wd w Av g s.heap R dR Dd S1 S2 v) (hA : A.handled = none) (hd : A.depth + 4 < recursionLimit) (I : Inv S2 (v.ls.map (·.2)) Z)
    (ret : ∀ h' tk c, Up s.heap h' → Fr g L h' m → News g L h' nf → Wd w Av g h' R dR Dd S1 S2 v → ReadsP h' (.ref c) (plainP S2 (v.ls.map (·.2))) → Q (.ref c) { s with heap := h', toks := tk }) :
    wpAny (model Pg w) A (call (.ref 208) [.ref Dd]) Q E s := by
  have hlen : v.ls.length ≤ 50 := by have h1 := I.len; have h2 := I.many; rw [List.length_map] at h1; omega
  refine law_plain_spec G W.stays hA hd W.lw hlen (W.noo _ own_Dd) (W.noo _ own_T) fun h' tk c U hc hr => ?_
  exact ret h' tk c U (F.keeps U) (N.grown U) (up_wd W U) hr
theorem place_ok {S : Sc} {ss : List St} {Z x k : Int} (I : Inv S ss Z) (hZ : 40 ≤ Z) (hk : 1 ≤ k) : 0 ≤ placeOf ss x k ∧ placeOf ss x k ≤ Z := by
  unfold placeOf
  have h1 := Int.fmod_nonneg_of_pos (x.fdiv 4) (show (0 : Int) < 40 by decide)
  have h2 := Int.fmod_lt_of_pos (x.fdiv 4) (show (0 : Int) < 40 by decide)
  split
  · omega
  · cases he : ss[((x.fdiv 4).fmod ss.length).toNat]? with
    | none => dsimp only; omega
    | some σ =>
      obtain ⟨⟨a, b, c, d, e⟩, f, g, i⟩ := I.ok σ (List.mem_of_getElem? he)
      dsimp only
      (repeat' split) <;> omega
theorem op_place {x k Z : Int} {tx tk0 : Tok} (G : Gr w g) (F : Fr g L s.heap m) (N : News g L s.heap nf) (W : Wd w Av g s.heap R dR Dd S1 S2 v) (hA : A.handled = none) (hd : A.depth + 4 < recursionLimit) (hu : A.units + 100 < cLine) (I : Inv S2 (v.ls.map (·.2)) Z)
    (ret : ∀ h' tk t, Fr g L h' m → News g L h' nf → Wd w Av g h' R dR Dd S1 S2 v → Q (.int (placeOf (v.ls.map (·.2)) x k) t) { s with heap := h', toks := tk }) :
    wpAny (model Pg w) A (call (.ref 225) [.ref Dd, .int x tx, .int k tk0]) Q E s := by
  have hlen : v.ls.length ≤ 50 := by have h1 := I.len; have h2 := I.many; rw [List.length_map] at h1; omega
  refine law_place_spec G W.stays hA hd W.lw hlen hu (W.noo _ own_Dd) (W.noo _ own_T) (fun e he => W.noo _ (own_l he)) fun h' tk t U => ?_
  exact ret h' tk t (F.keeps U) (N.grown U) (up_wd W U)
end
section
variable {w : World} {Av : List Addr} {g h h' : Heap} {L : Addr} {m : Str → Option Value} {R dR Dd : Addr} {S1 S2 : Sc} {v : WDat}
noncomputable def wNews (h : Heap) (R dR Dd : Addr) (v : WDat) : List (Addr × Obj) := (v.all R dR Dd).map fun a => (a, (h.get? a).getD default)
theorem wd_has (W : Wd w Av g h R dR Dd S1 S2 v) {a : Addr} (ha : a ∈ v.all R dR Dd) : ∃ o, h.get? a = some o := by
  obtain ⟨q, t, hR, hdR⟩ := W.rw.r
  obtain ⟨oD, hD, hoD⟩ := W.lw.d
  rcases all_cases ha with h1 | ⟨e, he, h1⟩ | h1
  · exact ⟨_, h1 ▸ hR⟩
  · obtain ⟨q', t', a', b'⟩ := W.rw.e e he
    exact ⟨_, h1 ▸ a'⟩
  · rcases own_cases h1 with h1 | h1 | h1 | h1 | ⟨e1, he1, h1⟩ | ⟨e1, he1, h1⟩
    · exact ⟨_, h1 ▸ hdR⟩
    · exact ⟨_, h1 ▸ W.rw.l⟩
    · exact ⟨_, h1 ▸ hD⟩
    · exact ⟨_, h1 ▸ W.lw.l⟩
    · obtain ⟨q', t', a', b'⟩ := W.rw.e e1 he1
      exact ⟨_, h1 ▸ b'⟩
    · obtain ⟨t', n', a'⟩ := W.lw.e e1 he1
      exact ⟨_, h1 ▸ a'⟩
theorem wn_news (W : Wd w Av g h R dR Dd S1 S2 v) (hL : L ∈ Av) : News g L h (wNews h R dR Dd v) := fun p hp => by
  obtain ⟨a, ha, rfl⟩ := List.mem_map.mp hp
  obtain ⟨o, ho⟩ := wd_has W ha
  refine ⟨?_, fun q => W.av a ha (by have q' : a = L := q; rw [q']; exact hL), W.no a ha⟩
  dsimp only
  rw [ho]; rfl
/-- what the world's part of a ledger tells -/
noncomputable def WL (w : World) (Av : List Addr) (g : Heap) (L R dR Dd : Addr) (S1 S2 : Sc) (v : WDat) (nW : List (Addr × Obj)) : Prop :=
  ∀ h m, Fr g L h m → News g L h nW → (∀ a ∈ Av, ∃ o, h.get? a = some o) → Wd w Av g h R dR Dd S1 S2 v
theorem wl_of (W : Wd w Av g h R dR Dd S1 S2 v) : WL w Av g L R dR Dd S1 S2 v (wNews h R dR Dd v) := fun h' m F N pr => by
  refine W.congr (fun b o hb e => ?_) F.keep W.no W.av pr
  have := (N (b, (h.get? b).getD default) (List.mem_map.mpr ⟨b, hb, rfl⟩)).1
  rw [e] at this; exact this
theorem wn_addr {a : Addr × Obj} (ha : a ∈ wNews h R dR Dd v) : a.1 ∈ v.all R dR Dd := by
  obtain ⟨b, hb, rfl⟩ := List.mem_map.mp ha
  exact hb
end
theorem cut_list {prog : Program} {w : World} {A : Around} {t : Sem Value} {Q : Value → Shared → Prop} {E : Value → Shared → Prop} {s : Shared} {g : Heap} {L : Addr} {m : Str → Option Value} {news : List (Addr × Obj)} (F : Fr g L s.heap m) (N : News g L s.heap news)
    (h1 : ∀ Q' : Value → Shared → Prop, (∀ X ys xs n h tk, Fr g L h m → News g L h ((X, listOf (List.toArray ys) n) :: news) → IntsAre ys xs → xs.length ≤ 100 → (∀ p ∈ news, @LT.lt Nat _ p.1 X) → Q' (.ref X) { s with heap := h, toks := tk }) → wpAny (model prog w) A t Q' E s)
    (h2 : ∀ X ys xs n h tk, Fr g L h m → News g L h ((X, listOf (List.toArray ys) n) :: news) → IntsAre ys xs → xs.length ≤ 100 → (∀ p ∈ news, @LT.lt Nat _ p.1 X) → Q (.ref X) { s with heap := h, toks := tk }) : wpAny (model prog w) A t Q E s := h1 Q h2
end

section
theorem wNpOq0 : True := by
  k_with_none
  (k_with "np_omega" => (first
      | (with_reducible assumption)
      | omega -splitDisjunctions
      | ((with_reducible show @Ne Nat _ _); with_reducible refine Ne.symm ?_; with_reducible assumption)
      | (refine Nat.le_antisymm ?_ ?_ <;> omega -splitDisjunctions)
      | (refine Int.le_antisymm ?_ ?_ <;> omega -splitDisjunctions)
      | omega +splitDisjunctions))
  (k_with "np_mm" => (first
      | (simp (disch := (first | assumption | exact Int.le_of_lt (by assumption) | exact Int.not_lt.mp (by assumption) | omega)) only [Int.max_eq_right, Int.max_eq_left, Int.min_eq_right, Int.min_eq_left]; done)
      | omega))
  (k_with "np_lt" => (k_dflt (repeat (intro _)); k_dflt (refine Got.mk ?_)))
  (k_with "np_ne" => (first
      | (with_reducible refine Nat.ne_of_lt ?_; with_reducible assumption)
      | (with_reducible refine Nat.ne_of_gt ?_; with_reducible assumption)
      | (with_reducible assumption)
      | (with_reducible refine Ne.symm ?_; with_reducible assumption)
      | (refine neN ?_; (try dsimp only); omega)))
  (k_with "np_mem" => (first
      | ((repeat' (with_reducible first | exact List.Mem.head _ | refine List.Mem.tail _ ?_)); done)
      | (with_reducible assumption)
      | assumption))
  (k_with "ite" => (k_closed; k_dflt (first | refine ite_pos (by decide) ?_ | refine ite_neg (by decide) ?_)))
  (k_with "callWith ref" => (k_here; k_dflt (first | (refine' callWith_K ?k1_q ?k2_q ?_; (case k1_q => k_asm); (case k2_q => k_is); k_whole) | (refine' callWith_K0 ?k1_q ?k2_q ?_; (case k1_q => exact Frag.In.keeps (by k_asm) (Fr.keep (by k_asm))); (case k2_q => k_is); k_whole))))
  (k_with "CompEnd" => (with_reducible refine haltIt ?_))
  (k_with "CompSrc" => (with_reducible refine haltIt ?_))
  (k_with "CompSrcT" => (with_reducible refine haltIt ?_))
  (k_with "np_inst" => (first
      | (refine' InstAt.of_base ?F_q ?h1_q ?h2_q; (case F_q => k_asm); (case h1_q => k_asm); (case h2_q => k_asm))
      | (refine' InstAt.of_mixed ?F_q ?h1_q ?N_q ?h2_q; (case F_q => k_asm); (case h1_q => k_asm); (case N_q => k_asm); (case h2_q => k_mem))))
  (k_with "execs cons" => (k_here; (try (with_reducible refine gentok ?_; intro _)); (with_reducible refine wpAny_execs_cons ?_); (try dsimp only); (try k_fold)))
  (k_with "execs nil" => (k_here; with_reducible refine gentok ?_; intro _))
  (k_with "np_handed" => (exact handed_opt _ _))
  (k_with "np_enter" => (case ho => k_dflt k_is); (case hcd => k_dflt k_is); (try (case hr => (first | omega | (dsimp only; omega)))); (case hbind => first | exact BindsTo.of_eq rfl | (refine' binds_K ?bx_q ?b1_q ?b2_q ?b3_q ?b4_q ?b5_q; (case bx_q => assumption); (case b1_q => exact rfl); (case b2_q => k_dflt k_is); (case b3_q => exact rfl); (case b4_q => exact rfl); (case b5_q => exact rfl))); (case hloc => exact locs rfl); (case ha => exact rfl); (case hb => exact rfl); (case hc => exact rfl); (case hd => decide))
  (k_with "np_enterX" => (case ho => k_dflt k_is); (case hcd => k_dflt k_is); (try (case hr => (first | omega | (dsimp only; omega)))); (case hbind => first | exact BindsTo.of_eq rfl | (refine' binds_K ?bx_q ?b1_q ?b2_q ?b3_q ?b4_q ?b5_q; (case bx_q => assumption); (case b1_q => exact rfl); (case b2_q => k_dflt k_is); (case b3_q => exact rfl); (case b4_q => exact rfl); (case b5_q => exact rfl))); (case hkd => exact rfl); (case hnd => decide +kernel); (case ha => exact rfl); (case hb => exact rfl); (case hc => exact rfl))
  trivial
theorem allLt_mem {a : Nat} : ∀ {n : List (Addr × Obj)}, AllLt a n → ∀ p ∈ n, @LT.lt Nat _ p.1 a
  | [], _, _, h => nomatch h
  | q :: r, h, p, hp => by
    rcases List.mem_cons.mp hp with rfl | hp
    · exact h.1
    · exact allLt_mem h.2 p hp
theorem lt5 {a b c d X : Nat} {o1 o2 o3 o4 : Obj} {n : List (Addr × Obj)} (h : @LT.lt Nat _ a X ∧ @LT.lt Nat _ b X ∧ @LT.lt Nat _ c X ∧ @LT.lt Nat _ d X ∧ AllLt X n) : ∀ p ∈ (a, o1) :: (b, o2) :: (c, o3) :: (d, o4) :: n, @LT.lt Nat _ p.1 X :=
  List.forall_mem_cons.mpr ⟨h.1, List.forall_mem_cons.mpr ⟨h.2.1, List.forall_mem_cons.mpr ⟨h.2.2.1, List.forall_mem_cons.mpr ⟨h.2.2.2.1, allLt_mem h.2.2.2.2⟩⟩⟩⟩
theorem wd_kind {w : World} {Av : List Addr} {g h : Heap} {R dR Dd : Addr} {S1 S2 : Sc} {v : WDat} (W : Wd w Av g h R dR Dd S1 S2 v) {a : Addr} (ha : a ∈ v.all R dR Dd) {o : Obj} (e : h.get? a = some o) : (∀ c, o.data ≠ .cell c) ∧ (∀ vs, o.data ≠ .fields vs) ∧ o.cls ≠ .type "list_iterator" := by
  have fin : ∀ {b : Addr} {o' : Obj}, a = b → h.get? b = some o' → ((∀ c, o'.data ≠ .cell c) ∧ (∀ vs, o'.data ≠ .fields vs) ∧ o'.cls ≠ .type "list_iterator") → (∀ c, o.data ≠ .cell c) ∧ (∀ vs, o.data ≠ .fields vs) ∧ o.cls ≠ .type "list_iterator" := fun {b o'} hb he hk => by
    rw [hb, he] at e; cases e; exact hk
  obtain ⟨q, t, hR, hdR⟩ := W.rw.r
  obtain ⟨oD, hD, hoD⟩ := W.lw.d
  have hDk : (∀ c, oD.data ≠ .cell c) ∧ (∀ vs, oD.data ≠ .fields vs) ∧ oD.cls ≠ .type "list_iterator" := by
    have hcl := hoD.cls
    obtain ⟨t, es, ep, h1, h2, h3⟩ := hoD
    exact ⟨fun c => by rw [h2]; simp, fun vs => by rw [h2]; simp, by rw [hcl]; simp⟩
  rcases all_cases ha with h1 | ⟨e1, he1, h1⟩ | h1
  · exact fin h1 hR (by simp)
  · obtain ⟨q', t', a', b'⟩ := W.rw.e e1 he1
    exact fin h1 a' (by simp)
  · rcases own_cases h1 with h1 | h1 | h1 | h1 | ⟨e1, he1, h1⟩ | ⟨e1, he1, h1⟩
    · exact fin h1 hdR (by simp)
    · exact fin h1 W.rw.l (by simp)
    · exact fin h1 hD hDk
    · exact fin h1 W.lw.l (by simp)
    · obtain ⟨q', t', a', b'⟩ := W.rw.e e1 he1
      exact fin h1 b' (by simp)
    · obtain ⟨t', n', a'⟩ := W.lw.e e1 he1
      exact fin h1 a' (by simp)
/-- between two turns of the law's loop -/
noncomputable def JL (w : World) (g : Heap) (L R dR Dd X : Addr) (oA lo : Obj) (ps : Array Value) (r : List Value) (n' : List (Addr × Obj)) : Prop :=
  Hold (∃ (oM : Obj) (cv : Option Value) (nW : List (Addr × Obj)) (v : WDat) (S : Sc) (Z : Int) (rs : List Int),
    n' = (L + 1 + 1 + 1 + 1, oM) :: (L + 1, oA) :: (227, tabObj ps) :: (X, lo) :: nW ∧ oM.data = Data.cell cv ∧ IntsAre r rs ∧ (∀ p ∈ (L + 1, oA) :: (227, tabObj ps) :: (X, lo) :: nW, p.1 ≠ L + 1 + 1 + 1 + 1) ∧
      WL w [L, L + 1 + 1 + 1 + 1, L + 1, 227, X] g L R dR Dd S S v nW ∧ (∀ p ∈ nW, p.1 ∈ v.all R dR Dd) ∧ v.es.map (·.2.2) = v.ls.map (·.2) ∧ Inv S (v.es.map (·.2.2)) Z ∧ 40 ≤ Z ∧ Z + 3 * (r.length : Nat) ≤ 900)
end

section
theorem wNpOr0 : True := by
  k_with_none
  (k_with "np_omega" => (first
      | (with_reducible assumption)
      | omega -splitDisjunctions
      | ((with_reducible show @Ne Nat _ _); with_reducible refine Ne.symm ?_; with_reducible assumption)
      | (refine Nat.le_antisymm ?_ ?_ <;> omega -splitDisjunctions)
      | (refine Int.le_antisymm ?_ ?_ <;> omega -splitDisjunctions)
      | omega +splitDisjunctions))
  (k_with "np_mm" => (first
      | (simp (disch := (first | assumption | exact Int.le_of_lt (by assumption) | exact Int.not_lt.mp (by assumption) | omega)) only [Int.max_eq_right, Int.max_eq_left, Int.min_eq_right, Int.min_eq_left]; done)
      | omega))
  (k_with "np_lt" => (k_dflt (repeat (intro _)); k_dflt (refine Got.mk ?_)))
  (k_with "np_ne" => (first
      | (with_reducible refine Nat.ne_of_lt ?_; with_reducible assumption)
      | (with_reducible refine Nat.ne_of_gt ?_; with_reducible assumption)
      | (with_reducible assumption)
      | (with_reducible refine Ne.symm ?_; with_reducible assumption)
      | (refine neN ?_; (try dsimp only); omega)))
  (k_with "np_mem" => (first
      | ((repeat' (with_reducible first | exact List.Mem.head _ | refine List.Mem.tail _ ?_)); done)
      | (with_reducible assumption)
      | assumption))
  (k_with "ite" => (k_closed; k_dflt (first | refine ite_pos (by decide) ?_ | refine ite_neg (by decide) ?_)))
  (k_with "callWith ref" => (k_here; k_dflt (first | (refine' callWith_K ?k1_q ?k2_q ?_; (case k1_q => k_asm); (case k2_q => k_is); k_whole) | (refine' callWith_K0 ?k1_q ?k2_q ?_; (case k1_q => exact Frag.In.keeps (by k_asm) (Fr.keep (by k_asm))); (case k2_q => k_is); k_whole))))
  (k_with "CompEnd" => (with_reducible refine haltIt ?_))
  (k_with "CompSrc" => (with_reducible refine haltIt ?_))
  (k_with "CompSrcT" => (with_reducible refine haltIt ?_))
  (k_with "np_inst" => (first
      | (refine' InstAt.of_base ?F_q ?h1_q ?h2_q; (case F_q => k_asm); (case h1_q => k_asm); (case h2_q => k_asm))
      | (refine' InstAt.of_mixed ?F_q ?h1_q ?N_q ?h2_q; (case F_q => k_asm); (case h1_q => k_asm); (case N_q => k_asm); (case h2_q => k_mem))))
  (k_with "execs cons" => (k_here; (try (with_reducible refine gentok ?_; intro _)); (with_reducible refine wpAny_execs_cons ?_); (try dsimp only); (try k_fold)))
  (k_with "execs nil" => (k_here; with_reducible refine gentok ?_; intro _))
  (k_with "np_handed" => (exact handed_opt _ _))
  (k_with "np_enter" => (case ho => k_dflt k_is); (case hcd => k_dflt k_is); (try (case hr => (first | omega | (dsimp only; omega)))); (case hbind => first | exact BindsTo.of_eq rfl | (refine' binds_K ?bx_q ?b1_q ?b2_q ?b3_q ?b4_q ?b5_q; (case bx_q => assumption); (case b1_q => exact rfl); (case b2_q => k_dflt k_is); (case b3_q => exact rfl); (case b4_q => exact rfl); (case b5_q => exact rfl))); (case hloc => exact locs rfl); (case ha => exact rfl); (case hb => exact rfl); (case hc => exact rfl); (case hd => decide))
  (k_with "np_enterX" => (case ho => k_dflt k_is); (case hcd => k_dflt k_is); (try (case hr => (first | omega | (dsimp only; omega)))); (case hbind => first | exact BindsTo.of_eq rfl | (refine' binds_K ?bx_q ?b1_q ?b2_q ?b3_q ?b4_q ?b5_q; (case bx_q => assumption); (case b1_q => exact rfl); (case b2_q => k_dflt k_is); (case b3_q => exact rfl); (case b4_q => exact rfl); (case b5_q => exact rfl))); (case hkd => exact rfl); (case hnd => decide +kernel); (case ha => exact rfl); (case hb => exact rfl); (case hc => exact rfl))
  trivial
section
variable {w : World} {g h : Heap} {L I X R dR Dd : Addr} {m : Str → Option Value} {it oM oA lo : Obj} {ps : Array Value} {news : List (Addr × Obj)} {S : Sc} {v : WDat} {Av : List Addr}
theorem pr6 (F : Fr g L h m) (N : News g L h news) (h0 : (I, it) ∈ news) (h1 : (L + 1 + 1 + 1 + 1, oM) ∈ news) (h2 : (L + 1, oA) ∈ news) (h3 : (227, tabObj ps) ∈ news) (h4 : (X, lo) ∈ news) : ∀ a ∈ [I, L, L + 1 + 1 + 1 + 1, L + 1, 227, X], ∃ o, h.get? a = some o := fun a ha => by
  simp only [List.mem_cons, List.not_mem_nil, or_false] at ha
  rcases ha with rfl | rfl | rfl | rfl | rfl | rfl
  · exact ⟨_, N.get h0⟩
  · obtain ⟨oL, _, _, hL, _⟩ := F.ns; exact ⟨oL, hL⟩
  · exact ⟨_, N.get h1⟩
  · exact ⟨_, N.get h2⟩
  · exact ⟨_, N.get h3⟩
  · exact ⟨_, N.get h4⟩
theorem nf5 (N : News g L h news) (h0 : (I, it) ∈ news) (h1 : (L + 1 + 1 + 1 + 1, oM) ∈ news) (h2 : (L + 1, oA) ∈ news) (h3 : (227, tabObj ps) ∈ news) (h4 : (X, lo) ∈ news) : News g L h [(I, it), (L + 1 + 1 + 1 + 1, oM), (L + 1, oA), (227, tabObj ps), (X, lo)] :=
  List.forall_mem_cons.mpr ⟨N _ h0, List.forall_mem_cons.mpr ⟨N _ h1, List.forall_mem_cons.mpr ⟨N _ h2, List.forall_mem_cons.mpr ⟨N _ h3, List.forall_mem_singleton.mpr (N _ h4)⟩⟩⟩⟩
theorem av5 : ∀ p ∈ [(I, it), (L + 1 + 1 + 1 + 1, oM), (L + 1, oA), (227, tabObj ps), (X, lo)], p.1 ∈ [I, L, L + 1 + 1 + 1 + 1, L + 1, 227, X] := fun p hp => by
  simp only [List.mem_cons, List.not_mem_nil, or_false] at hp
  rcases hp with rfl | rfl | rfl | rfl | rfl <;> simp
theorem av6 {c : Addr} {oc : Obj} : ∀ p ∈ [(c, oc), (I, it), (L + 1 + 1 + 1 + 1, oM), (L + 1, oA), (227, tabObj ps), (X, lo)], p.1 ∈ [c, I, L, L + 1 + 1 + 1 + 1, L + 1, 227, X] := fun p hp => by
  rcases List.mem_cons.mp hp with rfl | hp
  · exact .head _
  · exact .tail _ (av5 p hp)
/-- the object and its dict, on the ledger -/
theorem with_R (N : News g L h news) (W : Wd w Av g h R dR Dd S S v) (hL : L ∈ Av) : ∃ q t, News g L h ((R, instObj 180 dR) :: (dR, dictOf (rEs q t S v.SL) 8) :: news) := by
  obtain ⟨q, t, hR, hdR⟩ := W.rw.r
  refine ⟨q, t, List.forall_mem_cons.mpr ⟨⟨hR, fun z => W.av R all_R (by have z' : R = L := z; rw [z']; exact hL), W.no R all_R⟩, List.forall_mem_cons.mpr ⟨⟨hdR, fun z => W.av dR (own_all own_dR) (by have z' : dR = L := z; rw [z']; exact hL), W.no dR (own_all own_dR)⟩, N⟩⟩⟩
theorem jl_end {cv : Option Value} {r : List Value} {rs : List Int} {Z : Int} (F : Fr g L h m) (N : News g L h [(I, it), (L + 1 + 1 + 1 + 1, oM), (L + 1, oA), (227, tabObj ps), (X, lo)]) (W : Wd w Av g h R dR Dd S S v) (hAv : ∀ a ∈ [I, L, L + 1 + 1 + 1 + 1, L + 1, 227, X], a ∈ Av) (hoM : oM.data = Data.cell cv) (hoA : ∃ c, oA.data = Data.cell c) (hI : IntsAre r rs)
    (hes : v.es.map (·.2.2) = v.ls.map (·.2)) (hInv : Inv S (v.es.map (·.2.2)) Z) (hZ1 : 40 ≤ Z) (hZ2 : Z + 3 * (r.length : Nat) ≤ 900)
    (i1 : @LT.lt Nat _ (L + 1 + 1 + 1 + 1) I) (i2 : @LT.lt Nat _ (L + 1) I) (i3 : @LT.lt Nat _ 227 I) (i4 : @LT.lt Nat _ X I) (hX4 : X ≠ L + 1 + 1 + 1 + 1) :
    ∃ n9, News g L h ((I, it) :: n9) ∧ (∀ p ∈ n9, p.1 ≠ I) ∧ (X, lo) ∈ n9 ∧ JL w g L R dR Dd X oA lo ps r n9 := by
  have W5 : Wd w [L, L + 1 + 1 + 1 + 1, L + 1, 227, X] g h R dR Dd S S v := W.congr (fun _ _ _ e => e) W.stays W.no (fun a ha hm => W.av a ha (hAv a (.tail _ hm))) (fun a ha => W.pr a (hAv a (.tail _ ha)))
  have hA2 := N.get (.tail _ (.tail _ (.tail _ (.head _))))
  have hA4 := N.get (.tail _ (.head _))
  refine ⟨(L + 1 + 1 + 1 + 1, oM) :: (L + 1, oA) :: (227, tabObj ps) :: (X, lo) :: wNews h R dR Dd v, ?_, ?_, .tail _ (.tail _ (.tail _ (.head _))), Hold.mk ⟨oM, cv, _, v, S, Z, rs, rfl, hoM, hI, ?_, wl_of W5, fun p hp => wn_addr hp, hes, hInv, hZ1, hZ2⟩⟩
  · exact List.forall_mem_cons.mpr ⟨N _ (.head _), List.forall_mem_cons.mpr ⟨N _ (.tail _ (.head _)), List.forall_mem_cons.mpr ⟨N _ (.tail _ (.tail _ (.head _))), List.forall_mem_cons.mpr ⟨N _ (.tail _ (.tail _ (.tail _ (.head _)))), List.forall_mem_cons.mpr ⟨N _ (.tail _ (.tail _ (.tail _ (.tail _ (.head _))))), wn_news W (hAv L (.tail _ (.head _)))⟩⟩⟩⟩⟩
  · exact List.forall_mem_cons.mpr ⟨Nat.ne_of_lt i1, List.forall_mem_cons.mpr ⟨Nat.ne_of_lt i2, List.forall_mem_cons.mpr ⟨Nat.ne_of_lt i3, List.forall_mem_cons.mpr ⟨Nat.ne_of_lt i4, fun p hp q => W.av _ (wn_addr hp) (by rw [q]; exact hAv I (.head _))⟩⟩⟩⟩
  · refine List.forall_mem_cons.mpr ⟨?_, List.forall_mem_cons.mpr ⟨?_, List.forall_mem_cons.mpr ⟨hX4, fun p hp q => W.av _ (wn_addr hp) (by rw [q]; exact hAv _ (.tail _ (.tail _ (.head _))))⟩⟩⟩
    · intro q; have q' : @Eq Nat (L + 1) (L + 1 + 1 + 1 + 1) := q; omega
    · intro q
      have q' : (227 : Addr) = L + 1 + 1 + 1 + 1 := q
      rw [q', hA4] at hA2; cases hA2; cases hoM
end
theorem six {x : Int} (h1 : x.fmod 8 ≠ 6) (h2 : x.fmod 8 ≠ 7) : 1 ≤ [(1 : Int), 1, 1, 2, 1, 3].getD (x.fmod 8).toNat 0 ∧ [(1 : Int), 1, 1, 2, 1, 3].getD (x.fmod 8).toNat 0 ≤ 3 := by
  have a := Int.fmod_nonneg_of_pos x (show (0 : Int) < 8 by decide)
  have b := Int.fmod_lt_of_pos x (show (0 : Int) < 8 by decide)
  have : (x.fmod 8).toNat < 6 := by omega
  generalize (x.fmod 8).toNat = n at this
  rcases n with _ | _ | _ | _ | _ | _ | n <;> first | decide | omega
section
variable {w : World} {Av : List Addr} {A : Around} {s : Shared} {g : Heap} {L : Addr} {m : Str → Option Value} {nf : List (Addr × Obj)} {Q E : Value → Shared → Prop} {R dR Dd : Addr} {S1 S2 : Sc} {v : WDat}
theorem op_age1k {st0 Z : Int} {tm : Tok} (G : Gr w g) (F : Fr g L s.heap m) (N : News g L s.heap nf) (W : Wd w Av g s.heap R dR Dd S1 S2 v) (hL : L ∈ Av) (hAv : ∀ p ∈ nf, p.1 ∈ Av) (hA : A.handled = none) (hd : A.depth + 8 < recursionLimit) (I : Inv S1 (v.es.map (·.2.2)) Z)
    (ret : ∀ h' tk v' t k, k = (((v.es.map (·.2.2)).length : Int) - (((v.es.map (·.2.2)).filter fun e => decide (S1.stamp - e.stamp < st0)).length : Int)) → Fr g L h' m → News g L h' nf → Wd w Av g h' R dR Dd S1 S2 v' → v'.es.map (·.2.2) = ((v.es.map (·.2.2)).filter fun e => decide (S1.stamp - e.stamp < st0)) → v'.ls = v.ls → Q (.int k t) { s with heap := h', toks := tk }) :
    wpAny (model Pg w) A (call (.ref 172) [.ref R, .int st0 tm]) Q E s :=
  op_age1 G F N W hL hAv hA hd I fun h' tk v' t F N W a b => ret h' tk v' t _ rfl F N W a b
theorem op_age2k {st0 Z k0 : Int} {tm : Tok} (G : Gr w g) (F : Fr g L s.heap m) (N : News g L s.heap nf) (W : Wd w Av g s.heap R dR Dd S1 S2 v) (hL : L ∈ Av) (hAv : ∀ p ∈ nf, p.1 ∈ Av) (hA : A.handled = none) (hd : A.depth + 8 < recursionLimit) (I : Inv S2 (v.ls.map (·.2)) Z) (hk0 : k0 = (((v.ls.map (·.2)).length : Int) - (((v.ls.map (·.2)).filter fun e => decide (S2.stamp - e.stamp < st0)).length : Int)))
    (ret : ∀ h' tk v' t, Fr g L h' m → News g L h' nf → Wd w Av g h' R dR Dd S1 S2 v' → v'.ls.map (·.2) = ((v.ls.map (·.2)).filter fun e => decide (S2.stamp - e.stamp < st0)) → v'.es = v.es → Q (.int k0 t) { s with heap := h', toks := tk }) :
    wpAny (model Pg w) A (call (.ref 218) [.ref Dd, .int st0 tm]) Q E s :=
  op_age2 G F N W hL hAv hA hd I fun h' tk v' t F N W a b => hk0 ▸ ret h' tk v' t F N W a b
theorem op_placek {x k Z : Int} {tx tk0 : Tok} (G : Gr w g) (F : Fr g L s.heap m) (N : News g L s.heap nf) (W : Wd w Av g s.heap R dR Dd S1 S2 v) (hA : A.handled = none) (hd : A.depth + 4 < recursionLimit) (hu : A.units + 100 < cLine) (I : Inv S2 (v.ls.map (·.2)) Z) (hZ : 40 ≤ Z) (hk : 1 ≤ k)
    (ret : ∀ h' tk t b, 0 ≤ b → b ≤ Z → Fr g L h' m → News g L h' nf → Wd w Av g h' R dR Dd S1 S2 v → Q (.int b t) { s with heap := h', toks := tk }) :
    wpAny (model Pg w) A (call (.ref 225) [.ref Dd, .int x tx, .int k tk0]) Q E s :=
  op_place G F N W hA hd hu I fun h' tk t F N W => ret h' tk t _ (place_ok I hZ hk).1 (place_ok I hZ hk).2 F N W
end
end

section
theorem offNpLaw : True := by w_top off; trivial
theorem wNpLaw0 : True := by
  k_with_none
  (k_with "np_omega" => (first
      | (with_reducible assumption)
      | omega -splitDisjunctions
      | ((with_reducible show @Ne Nat _ _); with_reducible refine Ne.symm ?_; with_reducible assumption)
      | (refine Nat.le_antisymm ?_ ?_ <;> omega -splitDisjunctions)
      | (refine Int.le_antisymm ?_ ?_ <;> omega -splitDisjunctions)
      | omega +splitDisjunctions))
  (k_with "np_mm" => (first
      | (simp (disch := (first | assumption | exact Int.le_of_lt (by assumption) | exact Int.not_lt.mp (by assumption) | omega)) only [Int.max_eq_right, Int.max_eq_left, Int.min_eq_right, Int.min_eq_left]; done)
      | omega))
  (k_with "np_lt" => (k_dflt (repeat (intro _)); k_dflt (refine Got.mk ?_)))
  (k_with "np_ne" => (first
      | (with_reducible refine Nat.ne_of_lt ?_; with_reducible assumption)
      | (with_reducible refine Nat.ne_of_gt ?_; with_reducible assumption)
      | (with_reducible assumption)
      | (with_reducible refine Ne.symm ?_; with_reducible assumption)
      | (refine neN ?_; (try dsimp only); omega)))
  (k_with "np_mem" => (first
      | ((repeat' (with_reducible first | exact List.Mem.head _ | refine List.Mem.tail _ ?_)); done)
      | (with_reducible assumption)
      | assumption))
  (k_with "ite" => (k_closed; k_dflt (first | refine ite_pos (by decide) ?_ | refine ite_neg (by decide) ?_)))
  (k_with "callWith ref" => (k_here; k_dflt (first | (refine' callWith_K ?k1_q ?k2_q ?_; (case k1_q => k_asm); (case k2_q => k_is); k_whole) | (refine' callWith_K0 ?k1_q ?k2_q ?_; (case k1_q => exact Frag.In.keeps (by k_asm) (Fr.keep (by k_asm))); (case k2_q => k_is); k_whole))))
  (k_with "CompEnd" => (with_reducible refine haltIt ?_))
  (k_with "CompSrc" => (with_reducible refine haltIt ?_))
  (k_with "CompSrcT" => (with_reducible refine haltIt ?_))
  (k_with "np_inst" => (first
      | (refine' InstAt.of_base ?F_q ?h1_q ?h2_q; (case F_q => k_asm); (case h1_q => k_asm); (case h2_q => k_asm))
      | (refine' InstAt.of_mixed ?F_q ?h1_q ?N_q ?h2_q; (case F_q => k_asm); (case h1_q => k_asm); (case N_q => k_asm); (case h2_q => k_mem))))
  (k_with "np_let" => ((try ((with_reducible rename News _ _ _ _ => cN'q); (fail_if_success (have := lacksIt cN'q (by goal_lacks List.cons; exact fun _ => trivial))); refine news_let cN'q ?_; clear cN'q; intro _ cN'q)); (try ((with_reducible rename Fr _ _ _ _ => cF'q); (fail_if_success (have := lacksIt cF'q (by goal_lacks Option.some; exact fun _ => trivial))); refine fr_let cF'q ?_; clear cF'q; intro _ cF'q))))
  (k_with "getItem ref str" => (k_here; (with_reducible show wpAny _ _ (getItem (Value.ref _) (Value.str _ _)) _ _ _); k_dflt (refine kdt_getItem (knd := PySem.strKind _ _) (by k_asm) (by k_mem) (by k_asm) (strKind_is _ _ _ _) (by rfl) ?_)))
  (k_with "execs cons" => (k_here; (try (with_reducible refine gentok ?_; intro _)); walk_at "np_let"; (with_reducible refine wpAny_execs_cons ?_); (try dsimp only); (try k_fold)))
  (k_with "execs nil" => (k_here; with_reducible refine gentok ?_; intro _))
  (k_with "subscriptTail Name Constant ref int" => (k_here; (with_reducible show wpAny _ _ (subscriptTail _ _ (Value.ref _) (Value.int _ _)) _ _ _); k_dflt (refine' item_gl ?F_q ?I_q ?a_q ?b_q ?x_q ?_ ?hs_q; (case F_q => k_asm); (case I_q => with_reducible assumption); (case a_q => decide); (case b_q => decide); (case x_q => rfl); (case hs_q => with_unfolding_all rfl); k_whole)))
  (k_with "np_handed" => (exact handed_opt _ _))
  (k_with "np_enter" => (case ho => k_dflt k_is); (case hcd => k_dflt k_is); (try (case hr => (first | omega | (dsimp only; omega)))); (case hbind => first | exact BindsTo.of_eq rfl | (refine' binds_K ?bx_q ?b1_q ?b2_q ?b3_q ?b4_q ?b5_q; (case bx_q => assumption); (case b1_q => exact rfl); (case b2_q => k_dflt k_is); (case b3_q => exact rfl); (case b4_q => exact rfl); (case b5_q => exact rfl))); (case hloc => exact locs rfl); (case ha => exact rfl); (case hb => exact rfl); (case hc => exact rfl); (case hd => decide))
  (k_with "np_enterX" => (case ho => k_dflt k_is); (case hcd => k_dflt k_is); (try (case hr => (first | omega | (dsimp only; omega)))); (case hbind => first | exact BindsTo.of_eq rfl | (refine' binds_K ?bx_q ?b1_q ?b2_q ?b3_q ?b4_q ?b5_q; (case bx_q => assumption); (case b1_q => exact rfl); (case b2_q => k_dflt k_is); (case b3_q => exact rfl); (case b4_q => exact rfl); (case b5_q => exact rfl))); (case hkd => exact rfl); (case hnd => decide +kernel); (case ha => exact rfl); (case hb => exact rfl); (case hc => exact rfl))
  trivial
theorem hold_it {p : Prop} (h : Hold p) : p := h
theorem news_add3 {g h h' : Heap} {L a b c : Addr} {m : Str → Option Value} {o1 o2 o3 : Obj} {news : List (Addr × Obj)} (F : Fr g L h m) (N : News g L h news) (U : Up h h') (ha : h.get? a = none) (hb : h.get? b = none) (hc : h.get? c = none) (e1 : h'.get? a = some o1) (e2 : h'.get? b = some o2) (e3 : h'.get? c = some o3) : News g L h' ((a, o1) :: (b, o2) :: (c, o3) :: news) := fun p hp => by
  rcases List.mem_cons.mp hp with rfl | hp
  · exact news_add F N U ha e1 _ (.head _)
  · rcases List.mem_cons.mp hp with rfl | hp
    · exact news_add F N U hb e2 _ (.head _)
    · exact news_add F N U hc e3 _ hp
noncomputable def Mk : Prop := True
theorem ne_same {prog : Program} {w : World} {A : Around} {s : Shared} {Q E : Value → Shared → Prop} {a b : Value} {d : PyData} {k : Nat} (r1 : ReadsP s.heap a d) (r2 : ReadsP s.heap b d) (hg : GoodD k d) (hk : k ≤ 64) (hu : A.units + 64 < cLine) (h : Q (.bool false) s) : wpAny (model prog w) A (compareOp .NotEq a b) Q E s := by
  obtain ⟨as, r1⟩ := r1
  obtain ⟨bs, r2⟩ := r2
  exact ne_dataH r1 r2 (hg.shaped hk) (hg.shaped hk) hu (by rw [eqv_self hg]; exact h)
theorem reads_pair {h : Heap} {a : Addr} {x y : Str} {t1 t2 : Tok} (e : h.get? a = some { cls := .type "tuple", data := .seq #[.str x t1, .str y t2] }) : ReadsP h (.ref a) (.tuple [.str x, .str y]) := ⟨_, .tuple e rfl rfl (.cons (.str _ _) (.cons (.str _ _) .nil))⟩
noncomputable def Mk2 : Prop := True
theorem good_pair {x y : Str} (hx : (PyData.str x).canLay0 = true) (hy : (PyData.str y).canLay0 = true) : GoodD 1 (.tuple [.str x, .str y]) := GoodD.tuple fun d hd => by
  simp only [List.mem_cons, List.not_mem_nil, or_false] at hd
  rcases hd with rfl | rfl
  · exact ⟨hx, Nat.zero_le _⟩
  · exact ⟨hy, Nat.zero_le _⟩
theorem good_n : GoodD 1 (.tuple [.str (Str.ofString "misused"), .str (Str.ofString "no such reading ahead")]) := good_pair (by decide +kernel) (by decide +kernel)
theorem good_a : GoodD 1 (.tuple [.str (Str.ofString "misused"), .str (Str.ofString "no such blocks")]) := good_pair (by decide +kernel) (by decide +kernel)
theorem wNpLaw2 : True := by
  (k_with "eval Lambda" => (k_here; (with_reducible rename Mk2 => mkXq); k_dflt (refine' kla_eval ?d0_q ?_; (case d0_q => exact rfl)); k_dflt (refine' kla_hit ?F_q ?N_q ?T_q ?C_q ?cd_q ?mem_q ?t_q ?n_q ?cl_q ?_; (case F_q => k_asm); (case N_q => k_asm); (case T_q => k_asm); (case cd_q => exact rfl); (case C_q => kn_code); (case mem_q => k_mem); (case t_q => kn_triples); (case n_q => kn_hit); (case cl_q => exact rfl); k_whole); intro _ _ _ _ _ N'q l1q; (try dsimp only at N'q); (try k_lt l1q)))
  (k_with "compareOp NotEq ref ref" => (k_here; (with_reducible rename Mk => mkXq); (with_reducible show wpAny _ _ (compareOp CmpOp.NotEq (Value.ref _) (Value.ref _)) _ _ _); refine hold_it ?_))
  trivial
theorem News.drop3 {g h : Heap} {L : Addr} {p q r : Addr × Obj} {n : List (Addr × Obj)} (N : News g L h (p :: q :: r :: n)) : News g L h n := fun z hz => N z (.tail _ (.tail _ (.tail _ hz)))
theorem ints_cons {vs : List Value} {a : Int} {r : List Int} (h : IntsAre vs (a :: r)) : ∃ t vs', vs = Value.int a t :: vs' ∧ IntsAre vs' r := by
  cases h with
  | cons _ t h => exact ⟨t, _, rfl, h⟩
theorem wNpLaw3 : True := by
  (k_with "call ref" => (k_here; (with_reducible show wpAny _ _ (call (Value.ref _) _) _ _ _); refine hold_it ?_))
  (k_with "subscriptTail Name Constant ref str" => (k_here; (with_reducible show wpAny _ _ (subscriptTail _ _ (Value.ref _) (Value.str _ _)) _ _ _); k_dflt (refine kda_item (knd := PySem.strKind _ _) (by k_asm) (by k_mem) (by k_asm) (strKind_is _ _ _ _) (by rfl) ?_)))
  (k_with "setItem ref str" => (k_here; k_dflt (refine' kda_set (knd := PySem.strKind _ _) ?F_q ?N_q ?U_q ?d_q (strKind_is _ _ _ _) ?z_q ?_; (case F_q => k_asm); (case N_q => k_asm); (case U_q => k_updF); (case d_q => k_asm); (case z_q => rw [sizeLine_eq]; exact Nat.le_of_ble_eq_true (by with_unfolding_all rfl))); intro _ _ _ N'q _; (try dsimp only at N'q)))
  trivial
theorem wNpLaw4 : True := by
  (k_with "subscriptTail Name Constant ref int" => (k_here; (with_reducible show wpAny _ _ (subscriptTail _ _ (Value.ref _) (Value.int _ _)) _ _ _); k_dflt (refine' item_lv ?N_q ?m_q ?a_q ?b_q ?x_q ?_ ?hs_q; (case N_q => k_asm); (case m_q => k_mem); (case a_q => decide); (case b_q => decide); (case x_q => rfl); (case hs_q => with_unfolding_all rfl); k_whole)))
  (k_with "subscriptTail Name Constant ref int" => (k_here; (with_reducible show wpAny _ _ (subscriptTail _ _ (Value.ref _) (Value.int _ _)) _ _ _); k_dflt (refine' item_gl ?F_q ?I_q ?a_q ?b_q ?x_q ?_ ?hs_q; (case F_q => k_asm); (case I_q => with_reducible assumption); (case a_q => decide); (case b_q => decide); (case x_q => rfl); (case hs_q => with_unfolding_all rfl); k_whole)))
  (k_with "np_to" => (repeat' (first | (k_unfold; (try dsimp only)) | (k_end; wrow_close) | ((fail_if_success (with_reducible show wpAny _ _ (eval (Expr.IfExp _ _ _ _) _) _ _ _)); walk1) | ((fail_if_success (with_reducible show wpAny _ _ (eval (Expr.IfExp _ _ _ _) _) _ _ _)); dsimp only; walk1) | (leave1; walk_say "STEP leave1"; try dsimp only))))
  trivial
theorem fr_binds {g h : Heap} {L : Addr} {k : Str → Option NameKind} {bs bs' : List (Str × Value)} {m₀ : Str → Option Value} (F : Fr g L h (bindL k bs m₀)) (e : bs = bs') : Fr g L h (bindL k bs' m₀) := e ▸ F
noncomputable def firstOf (script : List Int) : Int := match script with | [] => 1 | a :: _ => a
set_option maxHeartbeats 40000000 in
noncomputable def law_pre : (Q : World → Shared → Shared → Addr → List Int → Heap → Addr → List Int → Int → Heap → Nat → Prop) ×' ((∀ w s₀ s₁ fa script g L sc fi hh tk, Gr w g → LoopAt w g L hh sc ⟨1 + fi.fmod 4, 1 + (fi.fdiv 4).fmod 3, 1 + (fi.fdiv 4).fmod 3 + (fi.fdiv 12).fmod 7, 0, 0, 0, 0⟩ → sc.length ≤ 63 → g = ghostOf s₁.heap [(231, 227)] → s₁.gens = #[] → Q w s₀ s₁ fa script g L sc fi hh tk) → PySem.Challenge.rw_np0184_01.Holds) := ⟨_, fun H => hd (by
  k_go0
  rename_i w s₀ s₁ mg mb G Y fa o pm doc ho hg X V T B TE TW hcd script hs hlay0 hL1 hr1 hl2 as1 as2 la lvs as3 hL ra w1 r0 hI hr hlen hcond hD h₁ tk₁ c1 c2 c3 c4 z1 z2 z3 z4 X0 X' T' K' F' N' l0
  have G' : Gr w (ghostOf s₁.heap [(231, 227)]) := ⟨X', _, _, _, T'⟩
  clear hD X0 hcond hr r0 w1 ra hL hl2 hr1 hL1 hlay0 hs hcd TW TE B T V X ho Y hT8 hT9
  have d1 : c1.data = Data.cell none := z1
  have d2 : c2.data = Data.cell none := z2
  have d3 : c3.data = Data.cell none := z3
  have d4 : c4.data = Data.cell none := z4
  clear z1 z2 z3 z4
  have F1 := fr_binds F' (bs' := [(Str.ofString "script", .ref la)]) rfl
  clear F'
  obtain ⟨g, hgd⟩ : ∃ g, g = ghostOf s₁.heap [(231, 227)] := ⟨_, rfl⟩
  obtain ⟨L, hLd⟩ : ∃ L, L = s₁.heap.objs.size := ⟨_, rfl⟩
  rw [← hgd] at X' T' K' F1 N' lifted codeHd G'
  rw [← hLd] at F1 N' l0
  have z12 : @LT.lt Nat _ (L + 1) (L + 1 + 1) := by clear F1 N'; omega
  have z13 : @LT.lt Nat _ (L + 1) (L + 1 + 1 + 1) := by clear F1 N'; omega
  have z14 : @LT.lt Nat _ (L + 1) (L + 1 + 1 + 1 + 1) := by clear F1 N'; omega
  have z23 : @LT.lt Nat _ (L + 1 + 1) (L + 1 + 1 + 1) := by clear F1 N'; omega
  have z24 : @LT.lt Nat _ (L + 1 + 1) (L + 1 + 1 + 1 + 1) := by clear F1 N'; omega
  have z34 : @LT.lt Nat _ (L + 1 + 1 + 1) (L + 1 + 1 + 1 + 1) := by clear F1 N'; omega
  have y1 : @LT.lt Nat _ 227 (L + 1) := by clear F1 N'; omega
  have y2 : @LT.lt Nat _ 227 (L + 1 + 1) := by clear F1 N'; omega
  have y3 : @LT.lt Nat _ 227 (L + 1 + 1 + 1) := by clear F1 N'; omega
  have y4 : @LT.lt Nat _ 227 (L + 1 + 1 + 1 + 1) := by clear F1 N'; omega
  dsimp only at F1
  dsimp only
  k_unmd
  rw [← hLd]
  k_fold
  walk_at "np_to"
  rename Fr _ _ _ _ => cF; rename News _ _ _ _ => cN
  rename (IntsAre _ (List.take 63 script)) => hI6
  obtain ⟨sc, hsc⟩ : ∃ sc, sc = List.take 63 script := ⟨_, rfl⟩
  rw [← hsc] at hI6
  refine cut_int (firstOf sc) cF cN (fun Q' ret' => ?qa1) (fun u1 h1 tk1 F1 N1 => ?qa2)
  case qa1 =>
    cases sc with
    | nil =>
      k_steps
      exact ret' _ _ _ _ rfl (by assumption) (fun q hq => (by assumption : News _ _ _ _) q (.tail _ hq))
    | cons a r =>
      obtain ⟨ta, wr, rfl, -⟩ := ints_cons hI6
      k_steps
      all_goals first
        | exact absurd (by assumption : decide (a :: r = []) = true) (by simp)
        | exact ret' _ _ _ _ rfl (by assumption) (fun q hq => (by assumption : News _ _ _ _) q (.tail _ hq))
  case qa2 =>
    clear cF cN
    have mk0 : Mk := trivial
    obtain ⟨fi, hfi⟩ : ∃ fi, fi = firstOf sc := ⟨_, rfl⟩
    have hf3 := Int.fmod_nonneg_of_pos fi (show (0 : Int) < 3 by decide)
    rw [← hfi]
    try dsimp only
    k_steps
    refine Hold.mk ?_
    rename Fr _ _ _ _ => cF; rename News _ _ _ _ => cN
    rename (Obj.IsDictOf _ _ _) => hDD
    have hM1 : 1 ≤ 1 + fi.fmod 4 ∧ 1 + fi.fmod 4 ≤ 4 := by
      have := Int.fmod_nonneg_of_pos fi (show (0 : Int) < 4 by decide); have := Int.fmod_lt_of_pos fi (show (0 : Int) < 4 by decide); omega
    have hL1 : 1 ≤ 1 + (fi.fdiv 4).fmod 3 ∧ 1 + (fi.fdiv 4).fmod 3 ≤ 3 := by
      have := Int.fmod_nonneg_of_pos (fi.fdiv 4) (show (0 : Int) < 3 by decide); have := Int.fmod_lt_of_pos (fi.fdiv 4) (show (0 : Int) < 3 by decide); omega
    have hG1 : 1 + (fi.fdiv 4).fmod 3 ≤ 1 + (fi.fdiv 4).fmod 3 + (fi.fdiv 12).fmod 7 ∧ 1 + (fi.fdiv 4).fmod 3 + (fi.fdiv 12).fmod 7 ≤ 9 := by
      have := Int.fmod_nonneg_of_pos (fi.fdiv 12) (show (0 : Int) < 7 by decide); have := Int.fmod_lt_of_pos (fi.fdiv 12) (show (0 : Int) < 7 by decide); omega
    refine init_spec2 G' cF.keep rfl (by simp only [depth_deeper]; decide) hM1.1 hL1.1 hG1.1 fun h2 tk2 R dR SL kR hz U2 hR hdR hSL RA hL2 => ?_
    obtain ⟨qR, tR, RA1, RA2⟩ := RA
    have F2 := cF.keeps U2
    have N2 := news_add3 cF cN U2 hR hdR hSL RA1 RA2 hL2
    have l9 := lts_of cN hz.1
    k_lt l9
    have nRS : @Ne Nat R SL := ne_of_cls RA1 hL2 (by simp)
    have hz1 := hz.2.1
    have hz2 := hz.2.2
    clear cF cN U2 hR hdR hSL RA1 RA2 hL2 hz
    try dsimp only
    k_steps
    refine Hold.mk ?_
    rename Fr _ _ _ _ => cF; rename News _ _ _ _ => cN
    obtain ⟨oL, esL, epL, hLo, hLd, hLr⟩ := cF.ns
    refine heard_misused (base := g) (L0 := L) (o0 := oL) (env0 := envOfC _ _ L fa _) (why := Str.ofString "no such reading ahead") G' cF.keep rfl (by simp only [depth_deeper]; decide) (below_push K' cF.keep cF.ns (frame_none cF) rfl rfl) rfl (FnAt.of cN (.head _)) hLo (fun vs q => by rw [hLd] at q; cases q) (frame_none cF) (fun A' outer' s1' R' hA1 hd1 K1 up1 hret => ?call0) (fun h3 tk3 tt sl uu1 uu2 hkp hsl ht htup => ?cont0)
    case call0 =>
      refine lam_enter (D := _) G' (fun b o q => up1 b o (cF.keep b o q)) (fun q hq => ⟨up1 _ _ (cN q hq).1, (cN q hq).2.2⟩) (up1 _ _ (cN.get (.head _))) ((codeRec_news cN (by k_mem) (by assumption) (by assumption)).keeps up1) (by omega) (by rfl) (fun g1 L1 h1 mean1 mg1 mb1 F1 N1 X1 T1 G1 kG1 => ?_) rfl rfl rfl (by decide)
      have hLn1 := frame_new kG1 F1 (fun q hq => (N1 q hq).2.1)
      have u1 := up_of_news kG1 F1 N1 (fun q hq => up1 _ _ (cN q hq).1) (fun q hq => hq)
      clear cF cN
      try dsimp only
      k_unmd
      try k_fold
      k_steps
      refine Hold.mk ?_
      rename Fr _ _ _ _ => kF; rename News _ _ _ _ => kN
      refine wpAny_call (new_raise G1 kF.keep (by exact hA1) (by simp only [depth_deeper]; omega) (below_push K1 (by exact u1) kF.ns hLn1 rfl rfl) (by omega) fun h4 tk4 v4 Z4 => ?_)
      exact rz_on K1 u1 hLn1 rfl Z4 fun h5 Z5 => hret _ _ _ Z5
    case cont0 =>
      obtain ⟨F3, N3⟩ := after_heard cF cN hLo hkp hsl ht htup
      clear cF cN hkp hsl ht htup hLo hLd hLr
      try dsimp only
      k_steps
      refine Hold.mk ?_
      rename Fr _ _ _ _ => cF; rename News _ _ _ _ => cN
      refine ne_same (reads_pair (cN.get (by k_mem))) (reads_pair (cN.get (.head _))) good_n (by decide) (by simp only [units_deeper]; decide) ?_
      have cN2 := News.drop3 cN
      clear cN
      try dsimp only
      have mk2 : Mk2 := trivial
      k_steps
      refine Hold.mk ?_
      rename Fr _ _ _ _ => cF; rename News _ _ _ _ => cN
      obtain ⟨oL, esL, epL, hLo, hLd, hLr⟩ := cF.ns
      refine heard_misused (base := g) (L0 := L) (o0 := oL) (env0 := envOfC _ _ L fa _) (why := Str.ofString "no such reading ahead") G' cF.keep rfl (by simp only [depth_deeper]; decide) (below_push K' cF.keep cF.ns (frame_none cF) rfl rfl) rfl (FnAt.of cN (.head _)) hLo (fun vs q => by rw [hLd] at q; cases q) (frame_none cF) (fun A' outer' s1' R' hA1 hd1 K1 up1 hret => ?call1) (fun h3 tk3 tt sl uu1 uu2 hkp hsl ht htup => ?cont1)
      case call1 =>
        refine lam_enter (D := _) G' (fun b o q => up1 b o (cF.keep b o q)) (fun q hq => ⟨up1 _ _ (cN q hq).1, (cN q hq).2.2⟩) (up1 _ _ (cN.get (.head _))) ((codeRec_news cN (by k_mem) (by assumption) (by assumption)).keeps up1) (by omega) (by rfl) (fun g1 L1 h1 mean1 mg1 mb1 F1 N1 X1 T1 G1 kG1 => ?_) rfl rfl rfl (by decide)
        have hLn1 := frame_new kG1 F1 (fun q hq => (N1 q hq).2.1)
        have u1 := up_of_news kG1 F1 N1 (fun q hq => up1 _ _ (cN q hq).1) (fun q hq => hq)
        clear cF cN
        try dsimp only
        k_unmd
        try k_fold
        k_steps
        refine Hold.mk ?_
        rename Fr _ _ _ _ => kF; rename News _ _ _ _ => kN
        refine wpAny_call (new_raise G1 kF.keep (by exact hA1) (by simp only [depth_deeper]; omega) (below_push K1 (by exact u1) kF.ns hLn1 rfl rfl) (by omega) fun h4 tk4 v4 Z4 => ?_)
        exact rz_on K1 u1 hLn1 rfl Z4 fun h5 Z5 => hret _ _ _ Z5
      case cont1 =>
        obtain ⟨F3, N3⟩ := after_heard cF cN hLo hkp hsl ht htup
        clear cF cN hkp hsl ht htup hLo hLd hLr
        try dsimp only
        k_steps
        refine Hold.mk ?_
        rename Fr _ _ _ _ => cF; rename News _ _ _ _ => cN
        refine ne_same (reads_pair (cN.get (by k_mem))) (reads_pair (cN.get (.head _))) good_n (by decide) (by simp only [units_deeper]; decide) ?_
        have cN2 := News.drop3 cN
        clear cN
        try dsimp only
        k_steps
        refine Hold.mk ?_
        rename Fr _ _ _ _ => cF; rename News _ _ _ _ => cN
        obtain ⟨oL, esL, epL, hLo, hLd, hLr⟩ := cF.ns
        refine heard_misused (base := g) (L0 := L) (o0 := oL) (env0 := envOfC _ _ L fa _) (why := Str.ofString "no such reading ahead") G' cF.keep rfl (by simp only [depth_deeper]; decide) (below_push K' cF.keep cF.ns (frame_none cF) rfl rfl) rfl (FnAt.of cN (.head _)) hLo (fun vs q => by rw [hLd] at q; cases q) (frame_none cF) (fun A' outer' s1' R' hA1 hd1 K1 up1 hret => ?call2) (fun h3 tk3 tt sl uu1 uu2 hkp hsl ht htup => ?cont2)
        case call2 =>
          refine lam_enter (D := _) G' (fun b o q => up1 b o (cF.keep b o q)) (fun q hq => ⟨up1 _ _ (cN q hq).1, (cN q hq).2.2⟩) (up1 _ _ (cN.get (.head _))) ((codeRec_news cN (by k_mem) (by assumption) (by assumption)).keeps up1) (by omega) (by rfl) (fun g1 L1 h1 mean1 mg1 mb1 F1 N1 X1 T1 G1 kG1 => ?_) rfl rfl rfl (by decide)
          have hLn1 := frame_new kG1 F1 (fun q hq => (N1 q hq).2.1)
          have u1 := up_of_news kG1 F1 N1 (fun q hq => up1 _ _ (cN q hq).1) (fun q hq => hq)
          clear cF cN
          try dsimp only
          k_unmd
          try k_fold
          k_steps
          refine Hold.mk ?_
          rename Fr _ _ _ _ => kF; rename News _ _ _ _ => kN
          refine wpAny_call (new_raise G1 kF.keep (by exact hA1) (by simp only [depth_deeper]; omega) (below_push K1 (by exact u1) kF.ns hLn1 rfl rfl) (by omega) fun h4 tk4 v4 Z4 => ?_)
          exact rz_on K1 u1 hLn1 rfl Z4 fun h5 Z5 => hret _ _ _ Z5
        case cont2 =>
          obtain ⟨F3, N3⟩ := after_heard cF cN hLo hkp hsl ht htup
          clear cF cN hkp hsl ht htup hLo hLd hLr
          try dsimp only
          k_steps
          refine Hold.mk ?_
          rename Fr _ _ _ _ => cF; rename News _ _ _ _ => cN
          refine ne_same (reads_pair (cN.get (by k_mem))) (reads_pair (cN.get (.head _))) good_n (by decide) (by simp only [units_deeper]; decide) ?_
          have cN2 := News.drop3 cN
          clear cN
          try dsimp only
          k_steps
          refine Hold.mk ?_
          rename Fr _ _ _ _ => cF; rename News _ _ _ _ => cN
          obtain ⟨oL, esL, epL, hLo, hLd, hLr⟩ := cF.ns
          refine heard_misused (base := g) (L0 := L) (o0 := oL) (env0 := envOfC _ _ L fa _) (why := Str.ofString "no such reading ahead") G' cF.keep rfl (by simp only [depth_deeper]; decide) (below_push K' cF.keep cF.ns (frame_none cF) rfl rfl) rfl (FnAt.of cN (.head _)) hLo (fun vs q => by rw [hLd] at q; cases q) (frame_none cF) (fun A' outer' s1' R' hA1 hd1 K1 up1 hret => ?call3) (fun h3 tk3 tt sl uu1 uu2 hkp hsl ht htup => ?cont3)
          case call3 =>
            refine lam_enter (D := _) G' (fun b o q => up1 b o (cF.keep b o q)) (fun q hq => ⟨up1 _ _ (cN q hq).1, (cN q hq).2.2⟩) (up1 _ _ (cN.get (.head _))) ((codeRec_news cN (by k_mem) (by assumption) (by assumption)).keeps up1) (by omega) (by rfl) (fun g1 L1 h1 mean1 mg1 mb1 F1 N1 X1 T1 G1 kG1 => ?_) rfl rfl rfl (by decide)
            have hLn1 := frame_new kG1 F1 (fun q hq => (N1 q hq).2.1)
            have u1 := up_of_news kG1 F1 N1 (fun q hq => up1 _ _ (cN q hq).1) (fun q hq => hq)
            clear cF cN
            try dsimp only
            k_unmd
            try k_fold
            k_steps
            refine Hold.mk ?_
            rename Fr _ _ _ _ => kF; rename News _ _ _ _ => kN
            refine wpAny_call (new_raise G1 kF.keep (by exact hA1) (by simp only [depth_deeper]; omega) (below_push K1 (by exact u1) kF.ns hLn1 rfl rfl) (by omega) fun h4 tk4 v4 Z4 => ?_)
            exact rz_on K1 u1 hLn1 rfl Z4 fun h5 Z5 => hret _ _ _ Z5
          case cont3 =>
            obtain ⟨F3, N3⟩ := after_heard cF cN hLo hkp hsl ht htup
            clear cF cN hkp hsl ht htup hLo hLd hLr
            try dsimp only
            k_steps
            refine Hold.mk ?_
            rename Fr _ _ _ _ => cF; rename News _ _ _ _ => cN
            refine ne_same (reads_pair (cN.get (by k_mem))) (reads_pair (cN.get (.head _))) good_n (by decide) (by simp only [units_deeper]; decide) ?_
            have cN2 := News.drop3 cN
            clear cN
            try dsimp only
            rename Mk2 => mk2
            clear mk2
            k_steps
            refine Hold.mk ?_
            rename Fr _ _ _ _ => cF; rename News _ _ _ _ => cN
            obtain ⟨oL, esL, epL, hLo, hLd, hLr⟩ := cF.ns
            refine heard_misused (base := g) (L0 := L) (o0 := oL) (env0 := envOfC _ _ L fa _) (why := Str.ofString "no such blocks") G' cF.keep rfl (by simp only [depth_deeper]; decide) (below_push K' cF.keep cF.ns (frame_none cF) rfl rfl) rfl (FnAt.of cN (.head _)) hLo (fun vs q => by rw [hLd] at q; cases q) (frame_none cF) (fun A' outer' s1' R' hA1 hd1 K1 up1 hret => ?call4) (fun h3 tk3 tt sl uu1 uu2 hkp hsl ht htup => ?cont4)
            case call4 =>
              refine lam_enter (D := _) G' (fun b o q => up1 b o (cF.keep b o q)) (fun q hq => ⟨up1 _ _ (cN q hq).1, (cN q hq).2.2⟩) (up1 _ _ (cN.get (.head _))) ((codeRec_news cN (by k_mem) (by assumption) (by assumption)).keeps up1) (by omega) (by rfl) (fun g1 L1 h1 mean1 mg1 mb1 F1 N1 X1 T1 G1 kG1 => ?_) rfl rfl rfl (by decide)
              have hLn1 := frame_new kG1 F1 (fun q hq => (N1 q hq).2.1)
              have u1 := up_of_news kG1 F1 N1 (fun q hq => up1 _ _ (cN q hq).1) (fun q hq => hq)
              clear cF cN
              try dsimp only
              k_unmd
              try k_fold
              k_steps
              refine Hold.mk ?_
              rename Fr _ _ _ _ => kF; rename News _ _ _ _ => kN
              refine wpAny_call (access_raise1 G1 kF.keep (by exact hA1) (by simp only [depth_deeper]; omega) (below_push K1 (by exact u1) kF.ns hLn1 rfl rfl) (by omega) fun h4 tk4 v4 Z4 => ?_)
              exact rz_on K1 u1 hLn1 rfl Z4 fun h5 Z5 => hret _ _ _ Z5
            case cont4 =>
              obtain ⟨F3, N3⟩ := after_heard cF cN hLo hkp hsl ht htup
              clear cF cN hkp hsl ht htup hLo hLd hLr
              try dsimp only
              k_steps
              refine Hold.mk ?_
              rename Fr _ _ _ _ => cF; rename News _ _ _ _ => cN
              refine ne_same (reads_pair (cN.get (by k_mem))) (reads_pair (cN.get (.head _))) good_a (by decide) (by simp only [units_deeper]; decide) ?_
              have cN2 := News.drop3 cN
              clear cN
              try dsimp only
              k_steps
              refine Hold.mk ?_
              rename Fr _ _ _ _ => cF; rename News _ _ _ _ => cN
              obtain ⟨oL, esL, epL, hLo, hLd, hLr⟩ := cF.ns
              refine heard_misused (base := g) (L0 := L) (o0 := oL) (env0 := envOfC _ _ L fa _) (why := Str.ofString "no such blocks") G' cF.keep rfl (by simp only [depth_deeper]; decide) (below_push K' cF.keep cF.ns (frame_none cF) rfl rfl) rfl (FnAt.of cN (.head _)) hLo (fun vs q => by rw [hLd] at q; cases q) (frame_none cF) (fun A' outer' s1' R' hA1 hd1 K1 up1 hret => ?call5) (fun h3 tk3 tt sl uu1 uu2 hkp hsl ht htup => ?cont5)
              case call5 =>
                refine lam_enter (D := _) G' (fun b o q => up1 b o (cF.keep b o q)) (fun q hq => ⟨up1 _ _ (cN q hq).1, (cN q hq).2.2⟩) (up1 _ _ (cN.get (.head _))) ((codeRec_news cN (by k_mem) (by assumption) (by assumption)).keeps up1) (by omega) (by rfl) (fun g1 L1 h1 mean1 mg1 mb1 F1 N1 X1 T1 G1 kG1 => ?_) rfl rfl rfl (by decide)
                have hLn1 := frame_new kG1 F1 (fun q hq => (N1 q hq).2.1)
                have u1 := up_of_news kG1 F1 N1 (fun q hq => up1 _ _ (cN q hq).1) (fun q hq => hq)
                clear cF cN
                try dsimp only
                k_unmd
                try k_fold
                k_steps
                refine Hold.mk ?_
                rename Fr _ _ _ _ => kF; rename News _ _ _ _ => kN
                refine wpAny_call (access_raise2 G1 kF.keep (by exact hA1) (by simp only [depth_deeper]; omega) (below_push K1 (by exact u1) kF.ns hLn1 rfl rfl) (by omega) (by omega) fun h4 tk4 v4 Z4 => ?_)
                exact rz_on K1 u1 hLn1 rfl Z4 fun h5 Z5 => hret _ _ _ Z5
              case cont5 =>
                obtain ⟨F3, N3⟩ := after_heard cF cN hLo hkp hsl ht htup
                clear cF cN hkp hsl ht htup hLo hLd hLr
                try dsimp only
                k_steps
                refine Hold.mk ?_
                rename Fr _ _ _ _ => cF; rename News _ _ _ _ => cN
                refine ne_same (reads_pair (cN.get (by k_mem))) (reads_pair (cN.get (.head _))) good_a (by decide) (by simp only [units_deeper]; decide) ?_
                have cN2 := News.drop3 cN
                clear cN
                try dsimp only
                walk_at "np_to"
                rename Fr _ _ _ _ => cF; rename News _ _ _ _ => cN
                rename (Obj.IsDictOf _ _ [_, _, _, _, _, _, _, _]) => hDD
                have hLA := mk_loop hDD cF cN (by exact rfl) (by exact rfl) hI6 (by k_mem) (by k_mem) (by k_mem) (by k_mem) (by k_mem) (by k_mem) (by assumption) (by assumption) (by k_mem : (R, instObj 180 dR) ∈ _) (by k_mem) (by k_mem : (SL, listOf #[] kR) ∈ _) (by omega) (by omega) (by omega) (by omega) (by omega) (by omega)
                clear cF cN hDD
                rename Nat => tk9
                rename Heap => hh
                try dsimp only
                dsimp only [qk, ek]
                exact H w s₀ s₁ fa script g L sc fi hh tk9 G' hLA (by rw [hsc, List.length_take]; omega) hgd hg)⟩
end

section
theorem offNpRest : True := by w_top off; trivial
theorem wNpRest0 : True := by
  k_with_none
  (k_with "np_omega" => (first
      | (with_reducible assumption)
      | omega -splitDisjunctions
      | ((with_reducible show @Ne Nat _ _); with_reducible refine Ne.symm ?_; with_reducible assumption)
      | (refine Nat.le_antisymm ?_ ?_ <;> omega -splitDisjunctions)
      | (refine Int.le_antisymm ?_ ?_ <;> omega -splitDisjunctions)
      | omega +splitDisjunctions))
  (k_with "np_mm" => (first
      | (simp (disch := (first | assumption | exact Int.le_of_lt (by assumption) | exact Int.not_lt.mp (by assumption) | omega)) only [Int.max_eq_right, Int.max_eq_left, Int.min_eq_right, Int.min_eq_left]; done)
      | omega))
  (k_with "np_lt" => (k_dflt (repeat (intro _)); k_dflt (refine Got.mk ?_)))
  (k_with "np_ne" => (first
      | (with_reducible refine Nat.ne_of_lt ?_; with_reducible assumption)
      | (with_reducible refine Nat.ne_of_gt ?_; with_reducible assumption)
      | (with_reducible assumption)
      | (with_reducible refine Ne.symm ?_; with_reducible assumption)
      | (refine neN ?_; (try dsimp only); omega)))
  (k_with "np_mem" => (first
      | ((repeat' (with_reducible first | exact List.Mem.head _ | refine List.Mem.tail _ ?_)); done)
      | (with_reducible assumption)
      | assumption))
  (k_with "ite" => (k_closed; k_dflt (first | refine ite_pos (by decide) ?_ | refine ite_neg (by decide) ?_)))
  (k_with "callWith ref" => (k_here; k_dflt (first | (refine' callWith_K ?k1_q ?k2_q ?_; (case k1_q => k_asm); (case k2_q => k_is); k_whole) | (refine' callWith_K0 ?k1_q ?k2_q ?_; (case k1_q => exact Frag.In.keeps (by k_asm) (Fr.keep (by k_asm))); (case k2_q => k_is); k_whole))))
  (k_with "CompEnd" => (with_reducible refine haltIt ?_))
  (k_with "CompSrc" => (with_reducible refine haltIt ?_))
  (k_with "CompSrcT" => (with_reducible refine haltIt ?_))
  (k_with "np_inst" => (first
      | (refine' InstAt.of_base ?F_q ?h1_q ?h2_q; (case F_q => k_asm); (case h1_q => k_asm); (case h2_q => k_asm))
      | (refine' InstAt.of_mixed ?F_q ?h1_q ?N_q ?h2_q; (case F_q => k_asm); (case h1_q => k_asm); (case N_q => k_asm); (case h2_q => k_mem))))
  (k_with "execs cons" => (k_here; (try (with_reducible refine gentok ?_; intro _)); (with_reducible refine wpAny_execs_cons ?_); (try dsimp only); (try k_fold)))
  (k_with "execs nil" => (k_here; with_reducible refine gentok ?_; intro _))
  (k_with "np_handed" => (exact handed_opt _ _))
  (k_with "np_enter" => (case ho => k_dflt k_is); (case hcd => k_dflt k_is); (try (case hr => (first | omega | (dsimp only; omega)))); (case hbind => first | exact BindsTo.of_eq rfl | (refine' binds_K ?bx_q ?b1_q ?b2_q ?b3_q ?b4_q ?b5_q; (case bx_q => assumption); (case b1_q => exact rfl); (case b2_q => k_dflt k_is); (case b3_q => exact rfl); (case b4_q => exact rfl); (case b5_q => exact rfl))); (case hloc => exact locs rfl); (case ha => exact rfl); (case hb => exact rfl); (case hc => exact rfl); (case hd => decide))
  (k_with "np_enterX" => (case ho => k_dflt k_is); (case hcd => k_dflt k_is); (try (case hr => (first | omega | (dsimp only; omega)))); (case hbind => first | exact BindsTo.of_eq rfl | (refine' binds_K ?bx_q ?b1_q ?b2_q ?b3_q ?b4_q ?b5_q; (case bx_q => assumption); (case b1_q => exact rfl); (case b2_q => k_dflt k_is); (case b3_q => exact rfl); (case b4_q => exact rfl); (case b5_q => exact rfl))); (case hkd => exact rfl); (case hnd => decide +kernel); (case ha => exact rfl); (case hb => exact rfl); (case hc => exact rfl))
  trivial
theorem len_ints {prog : Program} {w : World} {A : Around} {s : Shared} {Q E : Value → Shared → Prop} {g : Heap} {L D : Addr} {news : List (Addr × Obj)} {ys : List Value} {is : List Int} {n : Nat} (hI : IntsAre ys is) (hl : is.length ≤ 63) (N : News g L s.heap news) (hm : (D, listOf ys.toArray n) ∈ news) (h : Q (.int (is.length : Nat) (s.toks + 1)) { s with toks := s.toks + 1 + 1 }) :
    wpAny (model prog w) A (call (.builtin "len") [.ref D]) Q E s :=
  KM.len_K N hm (by have := IntsAre.length hI; simpa using this) (by omega) h
theorem wNpRest2 : True := by
  (k_with "call builtin:len" => (k_here; (with_reducible show wpAny _ _ (call (Value.builtin "len") [Value.ref _]) _ _ _); (rename IntsAre _ _ => hIqq); (refine' len_ints hIqq ?l_q ?N_q ?m_q ?_; (case l_q => assumption); (case N_q => k_asm); (case m_q => k_mem))))
  (k_with "call ref" => (k_here; (with_reducible show wpAny _ _ (call (Value.ref _) _) _ _ _); refine hold_it ?_))
  (k_with "compareOp NotEq ref ref" => (k_here; (with_reducible show wpAny _ _ (compareOp CmpOp.NotEq (Value.ref _) (Value.ref _)) _ _ _); refine hold_it ?_))
  (k_with "UnrPost" => ((with_reducible show UnrPost _ _ _ _ _ _ _ _ _); refine hold_it ?_))
  (k_with "np_all" => (assumption))
  (k_with "pyIter ref" => (k_here; refine hold_it ?_))
  trivial
set_option maxHeartbeats 40000000 in
theorem law_main : ∀ w s₀ s₁ fa script g L sc fi hh tk, Gr w g → LoopAt w g L hh sc ⟨1 + fi.fmod 4, 1 + (fi.fdiv 4).fmod 3, 1 + (fi.fdiv 4).fmod 3 + (fi.fdiv 12).fmod 7, 0, 0, 0, 0⟩ → sc.length ≤ 63 → g = ghostOf s₁.heap [(231, 227)] → s₁.gens = #[] → law_pre.1 w s₀ s₁ fa script g L sc fi hh tk := by
  intro w s₀ s₁ fa script g L sc fi hh tk G' hLA hsl hgd hge
  have G2 := G'
  obtain ⟨X', mean, mg, mb, T'⟩ := G2
  obtain ⟨S0, hS0⟩ : ∃ S0 : Sc, S0 = ⟨1 + fi.fmod 4, 1 + (fi.fdiv 4).fmod 3, 1 + (fi.fdiv 4).fmod 3 + (fi.fdiv 12).fmod 7, 0, 0, 0, 0⟩ := ⟨_, rfl⟩
  rw [← hS0] at hLA
  have hI0 : Inv S0 [] 40 := by
    have h1 := Int.fmod_nonneg_of_pos fi (show (0 : Int) < 4 by decide); have h2 := Int.fmod_lt_of_pos fi (show (0 : Int) < 4 by decide)
    have h3 := Int.fmod_nonneg_of_pos (fi.fdiv 4) (show (0 : Int) < 3 by decide); have h4 := Int.fmod_lt_of_pos (fi.fdiv 4) (show (0 : Int) < 3 by decide)
    have h5 := Int.fmod_nonneg_of_pos (fi.fdiv 12) (show (0 : Int) < 7 by decide); have h6 := Int.fmod_lt_of_pos (fi.fdiv 12) (show (0 : Int) < 7 by decide)
    rw [hS0]
    exact ⟨by dsimp only; omega, by dsimp only; omega, by dsimp only; omega, by simp; omega, fun _ h => nomatch h⟩
  clear hS0
  delta law_pre
  dsimp only
  obtain ⟨Dd, R, dR, Dsc, ws, nsc, m0, oA, oM, cv, ps, v, F, N, hoA, hoM, hI, W, hes, hls, n3, n4, n5, n6⟩ := hLA
  k_unmd
  k_fold
  have WLh := wl_of (L := L) W
  have NW := wn_news W (.head _)
  obtain ⟨nW, hnW⟩ : ∃ nW, nW = wNews hh R dR Dd v := ⟨_, rfl⟩
  rw [← hnW] at NW WLh
  have hWad : ∀ p ∈ nW, p.1 ∈ v.all R dR Dd := fun p hp => wn_addr (hnW ▸ hp)
  have N2 : News g L hh ((L + 1 + 1 + 1 + 1, oM) :: (L + 1, oA) :: (227, tabObj ps) :: (Dsc, listOf ws.toArray nsc) :: nW) :=
    List.forall_mem_cons.mpr ⟨N _ (.head _), List.forall_mem_cons.mpr ⟨N _ (.tail _ (.head _)), List.forall_mem_cons.mpr ⟨N _ (.tail _ (.tail _ (.tail _ (.head _)))), List.forall_mem_cons.mpr ⟨N _ (.tail _ (.tail _ (.head _))), NW⟩⟩⟩⟩
  clear N NW
  refine cut_list F N2 (fun Q' ret' => ?q1) (fun X ys xs n h tk F1 N1 hI1 hl1 hX => ?q2)
  case q1 =>
    clear WLh hWad hnW W
    k_steps
    · rename (_ ∧ _ ∧ _ ∧ _ ∧ _) => l9
      exact ret' _ _ _ _ _ _ (by assumption) (by assumption) (by assumption) (by omega) (lt5 l9)
    · rename (_ ∧ _ ∧ _ ∧ _ ∧ _) => l9
      exact ret' _ _ [0, 8, 8, 8, 16, 8] _ _ _ (by assumption) (by assumption) (.cons _ _ (.cons _ _ (.cons _ _ (.cons _ _ (.cons _ _ (.cons _ _ .nil)))))) (by decide) (lt5 l9)
  case q2 =>
    clear N2
    obtain ⟨lo, hlo⟩ : ∃ lo, lo = listOf ys.toArray n := ⟨_, rfl⟩
    rw [← hlo] at N1
    have hXo : h.get? X = some lo := N1.get (.head _)
    have hA4 : h.get? (L + 1 + 1 + 1 + 1) = some oM := N1.get (.tail _ (.head _))
    have hA1 : h.get? (L + 1) = some oA := N1.get (.tail _ (.tail _ (.head _)))
    have hA2 : h.get? 227 = some (tabObj ps) := N1.get (.tail _ (.tail _ (.tail _ (.head _))))
    have NW : News g L h nW := fun p hp => N1 p (.tail _ (.tail _ (.tail _ (.tail _ (.tail _ hp)))))
    have hLo : ∃ o, h.get? L = some o := by obtain ⟨oL, _, _, hL, _⟩ := F1.ns; exact ⟨oL, hL⟩
    have Wh := WLh h _ F1 NW (fun a ha => by rw [List.mem_singleton.mp ha]; exact hLo)
    have hXa : ∀ a ∈ v.all R dR Dd, a ≠ X := fun a ha q => by
      have ho := hnW
      have : (a, (hh.get? a).getD default) ∈ nW := by rw [hnW]; exact List.mem_map.mpr ⟨a, ha, rfl⟩
      have := hX _ (.tail _ (.tail _ (.tail _ (.tail _ this))))
      rw [q] at this; exact absurd this (Nat.lt_irrefl _)
    have hav : ∀ a ∈ v.all R dR Dd, a ∉ [L, L + 1 + 1 + 1 + 1, L + 1, 227, X] := fun a ha hm => by
      simp only [List.mem_cons, List.not_mem_nil, or_false] at hm
      rcases hm with q | q | q | q | q
      · exact W.av a ha (by rw [q]; exact .head _)
      · exact (wd_kind Wh ha (by rw [q]; exact hA4)).1 _ hoM
      · exact (wd_kind Wh ha (by rw [q]; exact hA1)).1 _ hoA
      · exact (wd_kind Wh ha (by rw [q]; exact hA2)).2.1 _ rfl
      · exact hXa a ha q
    have hWL0 : WL w [L, L + 1 + 1 + 1 + 1, L + 1, 227, X] g L R dR Dd S0 S0 v nW := fun h' m' F' N' pr =>
      (WLh h' m' F' N' (fun a ha => pr a (by rw [List.mem_singleton.mp ha]; exact .head _))).congr (fun _ _ _ e => e) F'.keep W.no hav pr
    have hoff0 : ∀ p ∈ (L + 1, oA) :: (227, tabObj ps) :: (X, lo) :: nW, p.1 ≠ L + 1 + 1 + 1 + 1 := by
      have hXl := hX (L + 1 + 1 + 1 + 1, oM) (.head _)
      refine List.forall_mem_cons.mpr ⟨?_, List.forall_mem_cons.mpr ⟨?_, List.forall_mem_cons.mpr ⟨?_, fun p hp q => ?_⟩⟩⟩
      · intro q; have q' : @Eq Nat (L + 1) (L + 1 + 1 + 1 + 1) := q; omega
      · intro q
        have q' : (227 : Addr) = L + 1 + 1 + 1 + 1 := q
        rw [q', hA4] at hA2; cases hA2; cases hoM
      · intro q
        have q' : @Eq Nat X (L + 1 + 1 + 1 + 1) := q
        have hXl' : @LT.lt Nat _ (L + 1 + 1 + 1 + 1) X := hXl
        omega
      · exact hav _ (hWad p hp) (by rw [q]; exact .tail _ (.head _))
    have N3 : News g L h ((L + 1 + 1 + 1 + 1, oM) :: (L + 1, oA) :: (227, tabObj ps) :: (X, lo) :: nW) := List.forall_mem_cons.mpr ⟨N1 _ (.tail _ (.head _)), List.forall_mem_cons.mpr ⟨N1 _ (.tail _ (.tail _ (.head _))), List.forall_mem_cons.mpr ⟨N1 _ (.tail _ (.tail _ (.tail _ (.head _)))), List.forall_mem_cons.mpr ⟨N1 _ (.head _), NW⟩⟩⟩⟩
    have hyl := IntsAre.length hI1
    have hJ0 : JL w g L R dR Dd X oA lo ps ys ((L + 1 + 1 + 1 + 1, oM) :: (L + 1, oA) :: (227, tabObj ps) :: (X, lo) :: nW) :=
      Hold.mk ⟨oM, cv, nW, v, S0, 40, xs, rfl, hoM, hI1, hoff0, hWL0, hWad, by rw [hes, hls]; rfl, by rw [hes]; exact hI0, by omega, by omega⟩
    clear N1 NW WLh hWL0 hoff0 hav hXa Wh hLo hA2 hA1 hA4 hXo hWad hnW W hX hI
    dsimp only
    refine loop_listJ (α := Value) (f := fun v : Value => v) (l := ys) [Str.ofString "x", Str.ofString "what", Str.ofString "rest", Str.ofString "most", Str.ofString "begin"] (JL w g L R dR Dd X oA lo ps) (L := L) rfl rfl F1 N3 (.tail _ (.tail _ (.tail _ (.head _)))) (by rw [hlo]) (by rw [hlo, List.map_id']) rfl hJ0 ?lnil ?lcons
    case lnil =>
      rintro m' n' h' tk' ⟨oM', cv', nW', v', S', Z', rs, rfl, hoM', hIr, hoff, hWL', hWad', hes', hInv, hZ1, hZ2⟩ F' N'
      clear F1 N3 hJ0
      try dsimp only
      k_unmd
      try k_fold
      k_steps
      subst hgd
      exact goodW_bool F' hge (raisesW_false (by wrow_none_raised)) (by wrow_post)
    case lcons =>
      rintro a r m' n' I it h' tk' hIlt ⟨oM', cv', nW', v', S', Z', rs, rfl, hoM', hIr, hoff, hWL', hWad', hes', hInv, hZ1, hZ2⟩ hit F' N'
      clear F1 N3 hJ0
      obtain ⟨x, t, rs', rfl, rfl, hIr'⟩ : ∃ x t rs', a = Value.int x t ∧ rs = x :: rs' ∧ IntsAre r rs' := by
        cases hIr with
        | cons x t h => exact ⟨x, t, _, rfl, rfl, h⟩
      have hrl : (Value.int x t :: r).length = r.length + 1 := rfl
      have hIo := N'.get (.head _)
      have hA4 := N'.get (.tail _ (.head _))
      have hA1 := N'.get (.tail _ (.tail _ (.head _)))
      have hA2 := N'.get (.tail _ (.tail _ (.tail _ (.head _))))
      have hXo := N'.get (.tail _ (.tail _ (.tail _ (.tail _ (.head _)))))
      have hLo : ∃ o, h'.get? L = some o := by obtain ⟨oL, _, _, hL, _⟩ := F'.ns; exact ⟨oL, hL⟩
      have hpr : ∀ a ∈ [L, L + 1 + 1 + 1 + 1, L + 1, 227, X], ∃ o, h'.get? a = some o := fun a ha => by
        simp only [List.mem_cons, List.not_mem_nil, or_false] at ha
        rcases ha with rfl | rfl | rfl | rfl | rfl
        · exact hLo
        · exact ⟨_, hA4⟩
        · exact ⟨_, hA1⟩
        · exact ⟨_, hA2⟩
        · exact ⟨_, hXo⟩
      have W0 := hWL' h' _ F' (fun p hp => N' p (.tail _ (.tail _ (.tail _ (.tail _ (.tail _ hp)))))) hpr
      have hIn : I ∉ v'.all R dR Dd := fun ha => (wd_kind W0 ha hIo).2.2 hit
      have WLI : WL w [I, L, L + 1 + 1 + 1 + 1, L + 1, 227, X] g L R dR Dd S' S' v' nW' := fun h m F N pr =>
        (hWL' h m F N (fun a ha => pr a (.tail _ ha))).congr (fun _ _ _ e => e) F.keep W0.no (fun a ha hm => by
          rcases List.mem_cons.mp hm with q | q
          · rw [q] at ha; exact hIn ha
          · exact W0.av a ha q) pr
      have hI4 : @LT.lt Nat _ (L + 1 + 1 + 1 + 1) I := hIlt (L + 1 + 1 + 1 + 1, _) (.head _)
      have hI1' : @LT.lt Nat _ (L + 1) I := hIlt (L + 1, _) (.tail _ (.head _))
      have hI2 : @LT.lt Nat _ 227 I := hIlt (227, _) (.tail _ (.tail _ (.head _)))
      have hI3 : @LT.lt Nat _ X I := hIlt (X, _) (.tail _ (.tail _ (.tail _ (.head _))))
      have hR4 : @Ne Nat (L + 1 + 1 + 1 + 1) R := fun q => W0.av R all_R (by have q' : L + 1 + 1 + 1 + 1 = R := q; rw [← q']; simp)
      have hdR4 : @Ne Nat (L + 1 + 1 + 1 + 1) dR := fun q => W0.av dR (own_all own_dR) (by have q' : L + 1 + 1 + 1 + 1 = dR := q; rw [← q']; simp)
      have hX4 : X ≠ L + 1 + 1 + 1 + 1 := hoff (X, lo) (.tail _ (.tail _ (.head _)))
      have hsub6 : ∀ a ∈ [I, L, L + 1 + 1 + 1 + 1, L + 1, 227, X], a ∈ [I, L, L + 1 + 1 + 1 + 1, L + 1, 227, X] := fun _ h => h
      have h08 := Int.fmod_nonneg_of_pos x (show (0 : Int) < 8 by decide)
      have h88 := Int.fmod_lt_of_pos x (show (0 : Int) < 8 by decide)
      have h30 := Int.fmod_nonneg_of_pos (x.fdiv 8) (show (0 : Int) < 30 by decide)
      have hInv2 : Inv S' (v'.ls.map (·.2)) Z' := hes' ▸ hInv
      obtain ⟨qR, tR, N2⟩ := with_R N' W0 (.head _)
      clear W0 hWL' hpr hIo hA4 hA1 hA2 hXo hLo hIlt N'
      try dsimp only at F'
      try dsimp only
      k_unmd
      try k_fold
      k_steps
      · refine Hold.mk ?_
        rename Fr _ _ _ _ => cF; rename News _ _ _ _ => cN
        have W1 := WLI _ _ cF (fun p hp => cN p (by repeat (first | exact hp | refine List.mem_cons_of_mem _ ?_))) (pr6 (I := I) (X := X) (lo := lo) cF cN (by k_mem) (by k_mem) (by k_mem) (by k_mem) (by k_mem))
        have N1 := nf5 (I := I) (X := X) (lo := lo) cN (by k_mem) (by k_mem) (by k_mem) (by k_mem) (by k_mem)
        clear cN
        refine op_cut1 G' cF N1 W1 (by simp) av5 rfl (by simp only [depth_deeper]; decide) (by simp only [units_deeper]; decide) hInv fun h1 tk1 v1 F2 N2 W2 he1 hl1 => ?_
        clear cF N1 W1
        try dsimp only
        k_steps
        refine Hold.mk ?_
        rename Fr _ _ _ _ => cF; rename News _ _ _ _ => cN
        refine op_cut2 G' cF cN W2 (by simp) av5 rfl (by simp only [depth_deeper]; decide) (by rw [hl1]; exact hInv2) fun h2 tk2 v2 F3 N3 W3 hl2 he2 => ?_
        clear cF cN W2
        have heq2 : v2.es.map (·.2.2) = v2.ls.map (·.2) := by rw [he2, he1, hl2, hl1, hes']
        obtain ⟨q9, t9, N4⟩ := with_R N3 W3 (by simp)
        clear N3
        try dsimp only
        k_steps
        try any_goals exact absurd rfl (by assumption)
        refine Hold.mk ?_
        rename Fr _ _ _ _ => cF; rename News _ _ _ _ => cN
        have N5 := nf5 (I := I) (X := X) (lo := lo) cN (by k_mem) (by k_mem) (by k_mem) (by k_mem) (by k_mem)
        clear cN
        have hInv9 := show Inv S' (v2.es.map (·.2.2)) (Z' + 3) from by rw [he2, he1]; exact (hInv.cut h30).more
        refine op_plain1 G' cF N5 W3 rfl (by simp only [depth_deeper]; decide) hInv9 fun h3 tk3 cc1 U3 F4 N6 W4 hr1 => ?_
        clear cF N5 W3
        try dsimp only
        k_steps
        refine Hold.mk ?_
        rename Fr _ _ _ _ => cF; rename News _ _ _ _ => cN
        refine op_plain2 G' cF cN W4 rfl (by simp only [depth_deeper]; decide) (heq2 ▸ hInv9) fun h4 tk4 cc2 U4 F5 N7 W5 hr2 => ?_
        clear cF cN W4
        try dsimp only
        k_steps
        refine Hold.mk ?_
        refine ne_same (hr1.up U4) (by rw [heq2]; exact hr2) (good_plainP _ _) (by decide) (by simp only [units_deeper]; decide) ?_
        try dsimp only
        k_steps
        rename Fr _ _ _ _ => cF; rename News _ _ _ _ => cN
        obtain ⟨n9, N9, o9, x9, J9⟩ := jl_end cF cN W5 hsub6 (by assumption) ⟨_, hoA⟩ hIr' heq2 hInv9 (by omega) (by rw [hrl] at hZ2; omega) hI4 hI1' hI2 hI3 hX4
        refine Hold.mk ⟨_, _, _, _, rfl, cF, N9, o9, x9, J9, fun yy hyy => ?_⟩
        simp only [List.contains_cons, List.contains_nil, Bool.or_false, Bool.or_eq_false_iff, beq_eq_false_iff_ne, ne_eq] at hyy
        simp [hyy]
      · refine Hold.mk ?_
        rename Fr _ _ _ _ => cF; rename News _ _ _ _ => cN
        have W1 := WLI _ _ cF (fun p hp => cN p (by repeat (first | exact hp | refine List.mem_cons_of_mem _ ?_))) (pr6 (I := I) (X := X) (lo := lo) cF cN (by k_mem) (by k_mem) (by k_mem) (by k_mem) (by k_mem))
        have N1 := nf5 (I := I) (X := X) (lo := lo) cN (by k_mem) (by k_mem) (by k_mem) (by k_mem) (by k_mem)
        clear cN
        refine op_age1k G' cF N1 W1 (by simp) av5 rfl (by simp only [depth_deeper]; decide) hInv fun h1 tk1 v1 t1 k1 hk1 F2 N2 W2 he1 hl1 => ?_
        clear cF N1 W1
        try dsimp only
        k_steps
        refine Hold.mk ?_
        rename Fr _ _ _ _ => cF; rename News _ _ _ _ => cN
        refine op_age2k (k0 := k1) G' cF cN W2 (by simp) av5 rfl (by simp only [depth_deeper]; decide) (by rw [hl1]; exact hInv2) (by rw [hk1, hl1, hes']) fun h2 tk2 v2 t2 F3 N3 W3 hl2 he2 => ?_
        clear cF cN W2
        have heq2 : v2.es.map (·.2.2) = v2.ls.map (·.2) := by rw [he2, he1, hl2, hl1, hes']
        obtain ⟨q9, t9, N4⟩ := with_R N3 W3 (by simp)
        clear N3
        try dsimp only
        k_steps
        try any_goals exact absurd rfl (by assumption)
        refine Hold.mk ?_
        rename Fr _ _ _ _ => cF; rename News _ _ _ _ => cN
        have N5 := nf5 (I := I) (X := X) (lo := lo) cN (by k_mem) (by k_mem) (by k_mem) (by k_mem) (by k_mem)
        clear cN
        have hInv9 := show Inv S' (v2.es.map (·.2.2)) (Z' + 3) from by rw [he2, he1]; exact (hInv.mono (fun e he => (List.mem_filter.mp he).1) (List.length_filter_le _ _)).more
        refine op_plain1 G' cF N5 W3 rfl (by simp only [depth_deeper]; decide) hInv9 fun h3 tk3 cc1 U3 F4 N6 W4 hr1 => ?_
        clear cF N5 W3
        try dsimp only
        k_steps
        refine Hold.mk ?_
        rename Fr _ _ _ _ => cF; rename News _ _ _ _ => cN
        refine op_plain2 G' cF cN W4 rfl (by simp only [depth_deeper]; decide) (heq2 ▸ hInv9) fun h4 tk4 cc2 U4 F5 N7 W5 hr2 => ?_
        clear cF cN W4
        try dsimp only
        k_steps
        refine Hold.mk ?_
        refine ne_same (hr1.up U4) (by rw [heq2]; exact hr2) (good_plainP _ _) (by decide) (by simp only [units_deeper]; decide) ?_
        try dsimp only
        k_steps
        rename Fr _ _ _ _ => cF; rename News _ _ _ _ => cN
        obtain ⟨n9, N9, o9, x9, J9⟩ := jl_end cF cN W5 hsub6 (by assumption) ⟨_, hoA⟩ hIr' heq2 hInv9 (by omega) (by rw [hrl] at hZ2; omega) hI4 hI1' hI2 hI3 hX4
        refine Hold.mk ⟨_, _, _, _, rfl, cF, N9, o9, x9, J9, fun yy hyy => ?_⟩
        simp only [List.contains_cons, List.contains_nil, Bool.or_false, Bool.or_eq_false_iff, beq_eq_false_iff_ne, ne_eq] at hyy
        simp [hyy]
      · refine Hold.mk ?_
        rename Fr _ _ _ _ => cF; rename News _ _ _ _ => cN
        have W1 := WLI _ _ cF (fun p hp => cN p (by repeat (first | exact hp | refine List.mem_cons_of_mem _ ?_))) (pr6 (I := I) (X := X) (lo := lo) cF cN (by k_mem) (by k_mem) (by k_mem) (by k_mem) (by k_mem))
        refine op_placek (Z := Z') G' cF cN W1 rfl (by simp only [depth_deeper]; decide) (by simp only [units_deeper]; decide) hInv2 hZ1 (six (by assumption) (by assumption)).1 fun h1 tk1 t1 b0 hb0 hb1 F2 N2 W2 => ?_
        clear cF cN W1 W2
        try dsimp only
        k_steps
        refine Hold.mk ?_
        rename Fr _ _ _ _ => cF; rename News _ _ _ _ => cN
        have W1 := WLI _ _ cF (fun p hp => cN p (by repeat (first | exact hp | refine List.mem_cons_of_mem _ ?_))) (pr6 (I := I) (X := X) (lo := lo) cF cN (by k_mem) (by k_mem) (by k_mem) (by k_mem) (by k_mem))
        have N1 := nf5 (I := I) (X := X) (lo := lo) cN (by k_mem) (by k_mem) (by k_mem) (by k_mem) (by k_mem)
        clear cN
        refine op_acc1 (most := none) (ts := 0) G' cF N1 W1 (by simp) av5 rfl (by simp only [depth_deeper]; decide) (by simp only [units_deeper]; decide) hInv (by rw [hrl] at hZ2; omega) ⟨hb0, hb1⟩ (six (by assumption) (by assumption)) fun h1 tk1 cL nL vs1 v1 F2 N2 W2 he1 hl1 hv1 => ?_
        clear cF N1 W1
        try dsimp only
        k_steps
        refine Hold.mk ?_
        rename Fr _ _ _ _ => cF; rename News _ _ _ _ => cN
        refine op_acc2 (most := none) (ts := 0) G' cF cN W2 (by simp) av6 rfl (by simp only [depth_deeper]; decide) (by simp only [units_deeper]; decide) (by rw [hl1]; exact hInv2) (by rw [hrl] at hZ2; omega) ⟨hb0, hb1⟩ (six (by assumption) (by assumption)) fun h2 tk2 cL2 nL2 vs2 v2 F3 N3 hcl2 W3 hl2 he2 hv2 => ?_
        clear cF cN W2
        try dsimp only
        k_steps
        refine Hold.mk ?_
        rename Fr _ _ _ _ => cF; rename News _ _ _ _ => cN
        rw [hl1, ← hes'] at hv2 hl2 W3
        refine ne_same (reads_intList (cN.get (.head _)) hv1) (reads_intList hcl2 hv2) (goodInts _) (by decide) (by simp only [units_deeper]; decide) ?_
        have N3 := cN
        clear cN hcl2 hv1 hv2
        have heq2 : v2.es.map (·.2.2) = v2.ls.map (·.2) := by rw [he2, he1, hl2]
        obtain ⟨q9, t9, N4⟩ := with_R N3 W3 (by simp)
        clear N3
        try dsimp only
        k_steps
        try any_goals exact absurd rfl (by assumption)
        refine Hold.mk ?_
        rename Fr _ _ _ _ => cF; rename News _ _ _ _ => cN
        have N5 := nf5 (I := I) (X := X) (lo := lo) cN (by k_mem) (by k_mem) (by k_mem) (by k_mem) (by k_mem)
        clear cN
        have hInv9 := show Inv _ (v2.es.map (·.2.2)) (Z' + 3) from by rw [he2, he1]; exact hInv.step (most := none) ⟨hb0, hb1⟩ (six (by assumption) (by assumption))
        refine op_plain1 G' cF N5 W3 rfl (by simp only [depth_deeper]; decide) hInv9 fun h3 tk3 cc1 U3 F4 N6 W4 hr1 => ?_
        clear cF N5 W3
        try dsimp only
        k_steps
        refine Hold.mk ?_
        rename Fr _ _ _ _ => cF; rename News _ _ _ _ => cN
        refine op_plain2 G' cF cN W4 rfl (by simp only [depth_deeper]; decide) (heq2 ▸ hInv9) fun h4 tk4 cc2 U4 F5 N7 W5 hr2 => ?_
        clear cF cN W4
        try dsimp only
        k_steps
        refine Hold.mk ?_
        refine ne_same (hr1.up U4) (by rw [heq2]; exact hr2) (good_plainP _ _) (by decide) (by simp only [units_deeper]; decide) ?_
        try dsimp only
        k_steps
        rename Fr _ _ _ _ => cF; rename News _ _ _ _ => cN
        obtain ⟨n9, N9, o9, x9, J9⟩ := jl_end cF cN W5 (fun a ha => .tail _ ha) (by assumption) ⟨_, hoA⟩ hIr' heq2 hInv9 (by omega) (by rw [hrl] at hZ2; omega) hI4 hI1' hI2 hI3 hX4
        refine Hold.mk ⟨_, _, _, _, rfl, cF, N9, o9, x9, J9, fun yy hyy => ?_⟩
        simp only [List.contains_cons, List.contains_nil, Bool.or_false, Bool.or_eq_false_iff, beq_eq_false_iff_ne, ne_eq] at hyy
        simp [hyy]
      · refine Hold.mk ?_
        rename Fr _ _ _ _ => cF; rename News _ _ _ _ => cN
        have W1 := WLI _ _ cF (fun p hp => cN p (by repeat (first | exact hp | refine List.mem_cons_of_mem _ ?_))) (pr6 (I := I) (X := X) (lo := lo) cF cN (by k_mem) (by k_mem) (by k_mem) (by k_mem) (by k_mem))
        refine op_placek (Z := Z') G' cF cN W1 rfl (by simp only [depth_deeper]; decide) (by simp only [units_deeper]; decide) hInv2 hZ1 (six (by assumption) (by assumption)).1 fun h1 tk1 t1 b0 hb0 hb1 F2 N2 W2 => ?_
        clear cF cN W1 W2
        try dsimp only
        k_steps
        refine Hold.mk ?_
        rename Fr _ _ _ _ => cF; rename News _ _ _ _ => cN
        have W1 := WLI _ _ cF (fun p hp => cN p (by repeat (first | exact hp | refine List.mem_cons_of_mem _ ?_))) (pr6 (I := I) (X := X) (lo := lo) cF cN (by k_mem) (by k_mem) (by k_mem) (by k_mem) (by k_mem))
        have N1 := nf5 (I := I) (X := X) (lo := lo) cN (by k_mem) (by k_mem) (by k_mem) (by k_mem) (by k_mem)
        clear cN
        refine op_acc1 (most := (some _)) G' cF N1 W1 (by simp) av5 rfl (by simp only [depth_deeper]; decide) (by simp only [units_deeper]; decide) hInv (by rw [hrl] at hZ2; omega) ⟨hb0, hb1⟩ (six (by assumption) (by assumption)) fun h1 tk1 cL nL vs1 v1 F2 N2 W2 he1 hl1 hv1 => ?_
        clear cF N1 W1
        try dsimp only
        k_steps
        refine Hold.mk ?_
        rename Fr _ _ _ _ => cF; rename News _ _ _ _ => cN
        refine op_acc2 (most := (some _)) G' cF cN W2 (by simp) av6 rfl (by simp only [depth_deeper]; decide) (by simp only [units_deeper]; decide) (by rw [hl1]; exact hInv2) (by rw [hrl] at hZ2; omega) ⟨hb0, hb1⟩ (six (by assumption) (by assumption)) fun h2 tk2 cL2 nL2 vs2 v2 F3 N3 hcl2 W3 hl2 he2 hv2 => ?_
        clear cF cN W2
        try dsimp only
        k_steps
        refine Hold.mk ?_
        rename Fr _ _ _ _ => cF; rename News _ _ _ _ => cN
        rw [hl1, ← hes'] at hv2 hl2 W3
        refine ne_same (reads_intList (cN.get (.head _)) hv1) (reads_intList hcl2 hv2) (goodInts _) (by decide) (by simp only [units_deeper]; decide) ?_
        have N3 := cN
        clear cN hcl2 hv1 hv2
        have heq2 : v2.es.map (·.2.2) = v2.ls.map (·.2) := by rw [he2, he1, hl2]
        obtain ⟨q9, t9, N4⟩ := with_R N3 W3 (by simp)
        clear N3
        try dsimp only
        k_steps
        try any_goals exact absurd rfl (by assumption)
        refine Hold.mk ?_
        rename Fr _ _ _ _ => cF; rename News _ _ _ _ => cN
        have N5 := nf5 (I := I) (X := X) (lo := lo) cN (by k_mem) (by k_mem) (by k_mem) (by k_mem) (by k_mem)
        clear cN
        have hInv9 := show Inv _ (v2.es.map (·.2.2)) (Z' + 3) from by rw [he2, he1]; exact hInv.step (most := (some _)) ⟨hb0, hb1⟩ (six (by assumption) (by assumption))
        refine op_plain1 G' cF N5 W3 rfl (by simp only [depth_deeper]; decide) hInv9 fun h3 tk3 cc1 U3 F4 N6 W4 hr1 => ?_
        clear cF N5 W3
        try dsimp only
        k_steps
        refine Hold.mk ?_
        rename Fr _ _ _ _ => cF; rename News _ _ _ _ => cN
        refine op_plain2 G' cF cN W4 rfl (by simp only [depth_deeper]; decide) (heq2 ▸ hInv9) fun h4 tk4 cc2 U4 F5 N7 W5 hr2 => ?_
        clear cF cN W4
        try dsimp only
        k_steps
        refine Hold.mk ?_
        refine ne_same (hr1.up U4) (by rw [heq2]; exact hr2) (good_plainP _ _) (by decide) (by simp only [units_deeper]; decide) ?_
        try dsimp only
        k_steps
        rename Fr _ _ _ _ => cF; rename News _ _ _ _ => cN
        obtain ⟨n9, N9, o9, x9, J9⟩ := jl_end cF cN W5 (fun a ha => .tail _ ha) (by assumption) ⟨_, hoA⟩ hIr' heq2 hInv9 (by omega) (by rw [hrl] at hZ2; omega) hI4 hI1' hI2 hI3 hX4
        refine Hold.mk ⟨_, _, _, _, rfl, cF, N9, o9, x9, J9, fun yy hyy => ?_⟩
        simp only [List.contains_cons, List.contains_nil, Bool.or_false, Bool.or_eq_false_iff, beq_eq_false_iff_ne, ne_eq] at hyy
        simp [hyy]
theorem law_all : PySem.Challenge.rw_np0184_01.Holds := law_pre.2 law_main
end

end Np

theorem PySem.Challenge.cw_np0184_01_holds : PySem.Challenge.rw_np0184_01.Holds := by
  exact Np.law_all
