import PyProof.Rows.All
import Wide.All
import OpenK.AllK
import Wide.FinOn
import PySem.Challenge.RW_xw0260_01
set_option Elab.async false
set_option maxRecDepth 100000

section
open PySem PySem.W PyProof.Rows
namespace Mine
/-- the law's caller, alone on the stack -/
def root : Ctx := ⟨.builtin "claim.caller" {}, none, none, [], none⟩
/-- a tree run under one written stack, from any place -/
def wpX {α : Type} (M : Model) (Γ : Ctx) (t : Sem α) (Q : α → Shared → Prop) (E : Value → Shared → Prop) (s : Shared) : Prop :=
  ∀ p, Sem.wp M Γ t (fun a _ s' => Q a s') (fun e _ s' => E e s') p s
section
variable {α β : Type} {M : Model} {Γ : Ctx} {A : Around} {E : Value → Shared → Prop} {s : Shared}
theorem wpX_of {t : Sem α} {Q : α → Shared → Prop} (hin : Γ.In A) (h : wpAny M A t Q E s) : wpX M Γ t Q E s := fun p => h Γ p hin
theorem wpX_mono {t : Sem α} {Q Q' : α → Shared → Prop} {E' : Value → Shared → Prop} (h : wpX M Γ t Q E s)
    (hQ : ∀ a s, Q a s → Q' a s) (hE : ∀ e s, E e s → E' e s) : wpX M Γ t Q' E' s :=
  fun p => Sem.wp_mono M Γ t (fun a _ s => hQ a s) (fun e _ s => hE e s) p s (h p)
theorem wpX_bind {m : Sem α} {f : α → Sem β} {Q : β → Shared → Prop} (h : wpX M Γ m (fun a s' => wpX M Γ (f a) Q E s') E s) : wpX M Γ (m >>= f) Q E s := fun p => by
  rw [Sem.wp_bind']
  exact Sem.wp_mono M Γ m (fun a p' s' h' => h' p') (fun _ _ _ h' => h') p s (h p)
theorem wpX_pure {a : α} {Q : α → Shared → Prop} (h : Q a s) : wpX M Γ (pure a) Q E s := fun _ => h
end
theorem ends_root {prog : Program} {w : World} {t : Sem Fin} {s : Shared} {R : Result → Shared → Prop} (hreg : s.asleep)
    (h : wpX (model prog w) root t (fun fin s' => ∃ f, fin = .done f ∧ (R (.ok f) s' ∧ leftWithCleanup s'.gens = false)) (fun e s' => R (.error e) s' ∧ leftWithCleanup s'.gens = false) s) :
    ∃ n r s' s'', runN (denote table) prog w n s ⟨t, .builtin "claim.caller" {}, default, []⟩ = .halted (outcomeOf r) s' ∧
      schedN (denote table) prog w n (.single s ⟨t, .builtin "claim.caller" {}, default, []⟩) = .halted (outcomeOf r) s' ∧ s'.forget = s''.forget ∧ R r s'' := by
  have hfin : Sem.wp (model prog w) root t (Sem.finPost (model prog w) root fun r s' => R r s' ∧ leftWithCleanup s'.gens = false) (fun e _ s' => R (.error e) s' ∧ leftWithCleanup s'.gens = false) default s := by
    refine Sem.wp_mono _ _ t (fun fin p' s' h' => ?_) (fun _ _ _ h' => h') default s (h default)
    obtain ⟨f, rfl, hf⟩ := h'
    exact hf
  obtain ⟨n, r, s₁, s₂, hs, hn, hfo, hR⟩ := wp_halts_full (M := model prog w) (R := R) hreg hfin
  exact ⟨n, r, s₂, s₁, hn, hs, hfo, hR⟩
theorem from_root {c : ClaimW} {tree : List Value → Sem Fin} {w : World} {s : Shared} {free : Addr → Prop} {gens : Prop} {kept : Heap → Prop} (hz : s.asleep) (hgens : s.gens = #[])
    (hspec : ∀ args, c.pre args = true → WData.layableAll args = true → ∀ ord : List DictEntry → List DictEntry, (∀ l, (ord l).Perm l) →
      ∃ vs s₁, layAllW c.records (classAt s.heap) w.params ord args s = some (vs, s₁) ∧
        wpX (model c.prog w) root (tree vs) (fun fin s' => ∃ f, fin = .done f ∧ (c.Ends s args vs s₁ (.ok f) s' ∧ s'.os = s.os ∧ AllBare s'.gens ∧ kept s'.heap))
          (fun e s' => c.Ends s args vs s₁ (.error e) s' ∧ s'.os = s.os ∧ AllBare s'.gens ∧ kept s'.heap) s₁) :
    c.CallFrom (fun vs => ⟨tree vs, .builtin "claim.caller" {}, default, []⟩) w free gens kept s := by
  intro args hpre hlay ord hord
  obtain ⟨vs, s₁, hlaid, hcode⟩ := hspec args hpre hlay ord hord
  have hal := layAllW_rest _ _ _ hlaid
  obtain ⟨k, r, s', s'', hrun, hsched, hfo, hend, hos, hkp⟩ := ends_root (prog := c.prog) (w := w) (t := tree vs) (s := s₁)
    (R := fun r s' => c.Ends s args vs s₁ r s' ∧ s'.os = s.os ∧ kept s'.heap) (Shared.asleep_of_life hal.2.2.2 hz)
    (wpX_mono hcode (fun fin s' ⟨f, e, h1, h2, h3, h4⟩ => ⟨f, e, ⟨h1, h2, h4⟩, leftWithCleanup_false_of_bare h3⟩) fun e s' ⟨h1, h2, h3, h4⟩ => ⟨⟨h1, h2, h4⟩, leftWithCleanup_false_of_bare h3⟩)
  obtain ⟨eh, _, _, eo, _⟩ := Shared.forget_eq hfo
  have hend := hend.congr eh
  rw [← eh] at hkp
  rw [← eo] at hos
  refine ⟨vs, s₁, hlaid, k, _, s', hsched, ?_, fun _ i x hx => ?_, hkp, ?_, Shared.rest_eq hos⟩
  · rcases hend with ⟨v, rfl, d1, d2, d3, d4, d5⟩ | ⟨e, ob, cls, rfl, d1, d2, d3, d4, d5⟩
    · exact .inl ⟨v, rfl, d1, d2, d3, fun b o y _ => d4 b o y, d5⟩
    · exact .inr ⟨e, ob, cls, rfl, d1, d2, d3, d4, fun b o y _ => d5 b o y⟩
  · rw [hgens] at hx; simp at hx
  · rw [(runN_life _ _ _ hrun).trans hal.2.2.2]
/-- what the head leaves to be shown: the call under its one caller -/
abbrev WalkX (q : Program) (loose : List Str) (XP : (Str → Option Value) → Heap → Prop) (YP : World → Heap → Prop) (r : RowW) (d : DefRec) (kwd : List (Str × Expr)) : Prop :=
  ∀ (w : World) (s₀ s₁ : Shared) (mg mb : Str → Option Value), Ground q loose r.records XP w s₀ mg mb s₁.heap → YP w s₁.heap → ∀ (a : Addr) (o : Obj) (pm cd doc dV kV : Value), s₁.heap.get? a = some o →
    o.data = .func { Calls.docDef d.name d.params d.body d.scope pm cd doc with defaults := dV, kwdefaults := kV } → s₁.heap.CodeRec cd d.name → Dflts mg s₁.heap d.params kwd dV kV → mg d.name = some (.ref a) → s₁.gens = #[] →
    ∀ (args : List WData) (vals : List Value) (as : List Addr), r.claim.pre args = true → WData.layableAll args = true → ReadsAllW r.records (classAt s₀.heap) s₁.heap vals args as → WellAll w.params s₁.heap vals args → (∀ a ∈ as, (a == sysModules) = false) →
      wpX (model r.prog w) root (PySem.call (.ref a) vals) (fun v s' => GoodWG r.claim (classAt s₀.heap) (ExcName.means s₀.heap) args s₁ (.ok (.ret v)) s')
        (fun e s' => GoodWG r.claim (classAt s₀.heap) (ExcName.means s₀.heap) args s₁ (.error e) s') s₁
/-- the head with the call under its one caller, in the place of every caller -/
theorem PySem.W.holds_open {r : OpenRow} {q : Program} {loose : List Str} {Xt : Shared → Bool} {XP : (Str → Option Value) → Heap → Prop} {α : Type} {Yf : Shared → α} {Ya : World → α} {YP : World → Heap → Prop} {d : DefRec} {kwd : List (Str × Expr)} {N : Nat}
    (left : LeftO r.prog q loose Xt Yf Ya N) (hY : ∀ w s, Yf s = Ya w → YP w s.heap) (hYk : ∀ w h h', YP w h → (∀ b o, h.get? b = some o → h'.get? b = some o) → YP w h')
    (hX : ∀ s, Xt s = true → XP (s.heap.nsMap mainGlobals) s.heap) (hXk : ∀ mg h h', XP mg h → (∀ b o, h.get? b = some o → h'.get? b = some o) → XP mg h')
    (hdef : defOf q r.name = some (d, kwd)) (hp : r.prog.theDef r.name = some (d.params, d.body, d.scope)) (hk : kwWritten? d.params.kwonlyargs d.params.kw_defaults = some kwd) (hRf : ∀ s, Xt s = true → RecFacts r.records s.heap) (hwr : (!r.writes || r.records.isEmpty) = true)
    (k1 : r.wellSaid = true) (ok : (chainsOk q && opensWell r.prog && (frees r.toRowW && r.within.isEmpty)) = true) (hb : r.prog.bare) (hw : r.toRowW.promised)
    (call : WalkX q loose XP YP r.toRowW d kwd) : r.Holds := by
  simp only [Bool.and_eq_true] at ok
  obtain ⟨⟨hch, o1⟩, k5, k6⟩ := ok
  obtain ⟨hsame, hu, ha, hap, hm⟩ := frees_parts k5
  refine ⟨k1, hw, ⟨hb, o1, by show r.makers.map _ = []; rw [hm]; rfl⟩, hw.witness, fun w => ⟨(left.behind hX hch w).1, fun s' hs' => ?_⟩⟩
  obtain ⟨s₀, hf, hg0, s, hT, hz, hgens, hg, G00, y⟩ := (left.behind (XP := fun mg h => XP mg h ∧ RecFacts r.records h) (fun s hs => ⟨hX s hs, hRf s hs⟩) hch w).2 s' hs'
  have RF := G00.X.2
  have G0 : Ground q loose [] XP w s (s.heap.nsMap mainGlobals) (s.heap.nsMap builtinsNs) s.heap := { G00 with X := G00.X.1 }
  refine ⟨s₀, hf, hg0, s, hT, fun n hn => ?_, RF.1, RF.2.1, ?_⟩
  · obtain rfl : n = r.name := by split at hn <;> simp_all
    exact pinned_of_view hg G0 hdef hp hk
  have hgens : s.gens = #[] := Array.eq_empty_of_size_eq_zero (beq_iff_eq.mp hgens)
  have G : Ground q loose r.records XP w s _ _ s.heap := RF.ground G0
  refine from_root (c := r.claim) hz hgens fun args hpre hlay ord hord => ?_
  obtain ⟨⟨vs, s₁⟩, hlaid⟩ := Option.isSome_iff_exists.mp (layAllW_isSome (P := w.params) (ord := ord) G.has args r.args s (pre_splitW hpre).1)
  have keeps := layAllW_keeps _ _ _ hlaid
  have hal := layAllW_rest _ _ _ hlaid
  obtain ⟨as, hrd, hin, hold⟩ := reads_layAllW hord _ _ _ hlaid hlay s₁.heap (fun _ _ e => e)
  have L : Laid r.records w s s₁ args vs as := ⟨⟨ord, hord, hlaid⟩, hrd, hin, hold, keeps, hal.1.trans hgens, hal.2.2.1⟩
  have G₁ := G.keeps hXk keeps
  obtain ⟨a, o, pm, cd, doc, dV, kV, h1, h2, h3, h4, h5⟩ := G₁.fn hdef
  have hd := call w s s₁ _ _ G₁ (hYk _ _ _ (hY w s y) keeps) a o pm cd doc dV kV h2 h3 h4 h5 (defOf_name hdef ▸ h1) L.gens args vs as hpre hlay L.reads L.well (L.low G.low)
  have hi := ident_freeW hu ha hap
  have hwi : r.claim.within = [] := List.isEmpty_iff.mp k6
  refine ⟨vs, s₁, hlaid, ?_⟩
  refine wpX_bind (wpX_of caller_in (wpAny_nsGet G₁.T.g ?_))
  rw [h1]
  refine wpX_bind (wpX_mono hd (fun v s' g => wpX_pure ?_) fun e s' g => ?_)
  · have z := g.laid (c := r.claim) hsame hwi hi L
    exact ⟨_, rfl, z.1, z.2.1, z.2.2, fun q => ⟨namesKept_of hT hg r.keeps keeps g.2.1.old, noTable hwr q⟩⟩
  · have z := g.laid (c := r.claim) hsame hwi hi L
    exact ⟨z.1, z.2.1, z.2.2, fun q => ⟨namesKept_of hT hg r.keeps keeps g.2.1.old, noTable hwr q⟩⟩

end Mine
end
section
open PySem PySem.W PyProof.Rows
namespace Mine
/-- the text without four of its statements (the names of its modules) -/
def view : Program := { PySem.Challenge.rw_xw0260_01.row.prog with main := { PySem.Challenge.rw_xw0260_01.row.prog.main with body := [1, 2, 3, 4, 5, 7, 8, 9, 10, 11, 12, 14, 15, 16, 17, 18, 19, 20, 21, 22, 23, 24, 25, 26, 28, 29, 30, 31, 32, 33, 34].filterMap fun i => PySem.Challenge.rw_xw0260_01.row.prog.main.body[i]? } }
/-- the top's run over a tree of objects, by the library's quick twins -/
noncomputable def topRunT (p : Program) (w : World) (n₀ : Nat) (ann : Option Value) : Nat → SharedT → Thread → Option SharedT
  | 0, _, _ => none
  | n + 1, s, t => match through t with
    | true => some s
    | false => match PySem.W.Fast.tw6613529449190102663 n₀ ann t with
      | false => none
      | true => match PySem.W.Fast.tw10156331382660048174 (PySem.W.Fast.tw11892475500146522536 PySem.W.Fast.tw14364793385576792824) p w s t with
        | some (s', t') => topRunT p w n₀ ann n s' t'
        | none => none
theorem topRunT_of {p : Program} {w : World} {n₀ : Nat} {ann : Option Value} : ∀ {n : Nat} {s s' : SharedT} {t : Thread}, topRunT p w n₀ ann n s t = some s' → topRun treeTable p w n₀ ann n s.abs t = some s'.abs
  | 0, _, _, _, h => by cases h
  | n + 1, s, s', t, h => by
    unfold topRunT at h
    rw [← PySem.W.Fast.te6613529449190102663, ← PySem.W.Fast.te10156331382660048174, ← PySem.W.Fast.te11892475500146522536, ← PySem.W.Fast.te14364793385576792824] at h
    unfold topRun
    cases he : through t with
    | true => rw [he] at h; cases h; rfl
    | false =>
      rw [he] at h
      cases hk : stepOk n₀ ann t with
      | false => rw [hk] at h; cases h
      | true =>
        rw [hk] at h
        cases hs : stepT (denote treeTable) p w s t with
        | none => rw [hs] at h; cases h
        | some r => obtain ⟨s₂, t₂⟩ := r; rw [hs] at h; rw [stepT_spec hs]; exact topRunT_of h
def treeOf (l : List Obj) : BT := (l.foldl (fun x o => (x.1.ins x.2 o, x.2 + 1)) (BT.nil, 0)).1
theorem treeOf_boot (P : Params) : (treeOf (boot_heap P).objs.toList).list (boot_heap P).objs.size = (boot_heap P).objs.toList := by kernel_rfl
noncomputable def bootT (w : World) (os : OsState) : SharedT := ⟨treeOf (boot_heap w.params).objs.toList, (boot_heap w.params).objs.size, (boot_heap w.params).life, Array.mk [], boot_drawn, boot_toks, os⟩
theorem bootT_abs (w : World) (os : OsState) : (bootT w os).abs = ⟨boot_heap w.params, Array.mk [], boot_drawn, boot_toks, os⟩ := by
  unfold bootT SharedT.abs absHeap
  dsimp only
  rw [treeOf_boot]
theorem left_of_tree {p q : Program} {loose : List Str} {Xt : Shared → Bool} {α : Type} {Yf : Shared → α} {Ya : World → α} {N M : Nat} {g0 : Bool}
    (e : opening p = plainProg p.main.scope.names) (hN : Nat.ble 600 N = true) (hM : Nat.ble M N = true) (f : ∀ s, fenceModules? p s = some s) (z : ∀ P : Params, (boot_heap P).isNs mainGlobals = true)
    (h : ∀ (w : World) (os : OsState), (topRunT p w (boot_heap w.params).objs.size ((boot_heap w.params).nsMap mainGlobals "__annotations__") M (bootT w os) (topStub p)).map (fun s =>
      (staticsOk (importedModules p.main.body) (boot_heap w.params) s.abs.heap && namesBound p s.abs.heap && gensDone s.abs && laidKept (boot_heap w.params) s.abs.heap, PySem.W.Fast.tw4187177175401517315 q loose (importedModules p.main.body) Xt g0 s.abs, Yf s.abs)) = some (true, openGood q loose, Ya w)) :
    LeftO p q loose Xt Yf Ya N g0 := fun w => by
  obtain ⟨⟨h₀, gs, d, k, os⟩, hs, hv⟩ := Option.map_eq_some_iff.mp (boot_open e hN f w)
  obtain ⟨rfl, rfl, rfl, rfl⟩ : h₀ = boot_heap w.params ∧ gs = Array.mk [] ∧ d = boot_drawn ∧ k = boot_toks := by simpa using hv
  obtain ⟨s', hr, hF⟩ := Option.map_eq_some_iff.mp (h w os)
  obtain ⟨l1, l2⟩ := Prod.mk.inj hF
  obtain ⟨l2, l3⟩ := Prod.mk.inj l2
  have r := topRun_mono (N - M) _ _ _ _ (topRunT_of hr)
  rw [show M + (N - M) = N by have := Nat.le_of_ble_eq_true hM; omega, bootT_abs] at r
  have t : topFrom treeTable p w N ⟨boot_heap w.params, Array.mk [], boot_drawn, boot_toks, os⟩ = some s'.abs := by
    unfold topFrom
    dsimp only
    rw [z, r]
    show (match staticsOk (importedModules p.main.body) (boot_heap w.params) s'.abs.heap && namesBound p s'.abs.heap && gensDone s'.abs && laidKept (boot_heap w.params) s'.abs.heap with | true => _ | false => _) = _
    rw [l1]
  unfold openEnds
  rw [hs]
  show (topFrom treeTable p w N _).map _ = _
  rw [t]
  rw [← PySem.W.Fast.te4187177175401517315] at l2
  exact congrArg some (Prod.ext l2 l3)
local macro_rules | `(tactic| o_head $H) => `(tactic| (refine PySem.W.holds_open (q := view) (loose := []) (Xt := fun s => xlAt view [] s && recOk (RowW.records PySem.Challenge.rw_xw0260_01.row.toRowW) s) (XP := XL view []) (Yf := Hook.obs $H) (Ya := Hook.val $H) (YP := Hook.says $H) (N := 5558) ?hl (Hook.of $H) (Hook.keeps $H) (fun s e => xl_of s (Bool.and_eq_true_iff.mp e).1) XL.keeps (by rfl) (by rfl) (by rfl) (fun s e => recFacts_of (Bool.and_eq_true_iff.mp e).2) (by rfl) (by first | assumption | decide +kernel) (by decide +kernel) ⟨rfl, rfl, rfl, rfl, rfl, by decide +kernel⟩ ?hw ?hc; (case hl => refine left_of_tree (M := 2800) (by rfl) (by rfl) (by rfl) (fun _ => rfl) (fun P => ?hz) (fun w os => ?hr); (case hz => kernel_rfl); (case hr => kernel_rfl))))
set_option maxHeartbeats 0 in
open_top hd for PySem.Challenge.rw_xw0260_01

end Mine
end
section
open PySem PySem.W PySem.Calls PyProof.Rows
namespace Mine
/-- the frame of a def that the one caller calls -/
def under (p : Pos) (body : List Stmt) (env : Env) : Ctx := ⟨.func body env, none, none, [(.builtin "claim.caller" {}, p)], none⟩
theorem root_below : (⟨.builtin "claim.caller" {}, none, none, [], none⟩ : Ctx).In callerA := caller_in
theorem under_in (p : Pos) (body : List Stmt) (env : Env) : (under p body env).In (callerA.deeper env) := by
  have h : ((root.enter (.call .none ⟨[], []⟩) none p).goto (.func body env)).Below (callerA.mark none) := (Ctx.In.enter caller_in _ none p (by intro x; cases x)).goto _
  exact h.in
section
variable {prog : Program} {w : World} {s : Shared} {Q : Value → Shared → Prop} {name : Str} {params : Arguments} {body : List Stmt} {scope : Scope} {doc pm cd : Value} {f : Addr} {o : Obj} {vals : List Value} {binds : List (Str × Value)}
theorem root_call (hlim : s.heap.NoLimit) (ho : s.heap.get? f = some o) (hdata : o.data = .func (docDef name params body scope pm cd doc)) (hcd : s.heap.CodeRec cd name)
    (hbind : bindArgs (docDef name params body scope pm cd doc) ⟨vals, []⟩ = pure binds)
    (hkind : ∀ x ∈ binds, scope.names.lookup x.1 = some .local ∨ (scope.names.lookup x.1 = some .cell ∧ ((cellsFrom (s.heap.objs.size + 1) scope.names []).lookup x.1).isSome = true))
    (hnd : ((cellsFrom 0 scope.names []).map (·.1)).Nodup)
    (h : ∀ p h₁ tk cells, Fr s.heap s.heap.objs.size h₁ (bindL (envOfC name scope s.heap.objs.size f cd).kindOf binds fun _ => none) → News s.heap s.heap.objs.size h₁ cells →
      CellsAre (bindC (envOfC name scope s.heap.objs.size f cd).kindOf binds fun _ => none) (cellsFrom (s.heap.objs.size + 1) scope.names []) cells →
      wpX (model prog w) (under p body (envOfC name scope s.heap.objs.size f cd)) (execs body (envOfC name scope s.heap.objs.size f cd)) (fun fl s' => Q (match fl with | .ret v => v | _ => .none) s') (fun _ _ => False) { s with heap := h₁, toks := tk })
    (hco : scope.isCoroutine = false := by rfl) (hgen : scope.isGenerator = false := by rfl) (hk : scope.kind = .function := by rfl) : wpX (model prog w) root (call (.ref f) vals) Q (fun _ _ => False) s := by
  intro p
  show Sem.wp (model prog w) root (runValue (.call (.ref f) ⟨vals, []⟩)) _ _ p s
  rw [Sem.wp_runValue, wpCode_iff_wp]
  have hb : (root.enter (.call (.ref f) ⟨vals, []⟩) none p).Below (callerA.mark none) := Ctx.In.enter caller_in _ none p (by intro x; cases x)
  have tree : wpAny (model prog w) ((callerA.mark none).under (.call (.ref f) ⟨vals, []⟩)) (callAny (.ref f) ⟨vals, []⟩)
      (fun fin s' => ∃ h₁ tk cells, fin = .again (.func body (envOfC name scope s.heap.objs.size f cd)) ∧ s' = { s with heap := h₁, toks := tk } ∧ Fr s.heap s.heap.objs.size h₁ (bindL (envOfC name scope s.heap.objs.size f cd).kindOf binds fun _ => none) ∧
        News s.heap s.heap.objs.size h₁ cells ∧ CellsAre (bindC (envOfC name scope s.heap.objs.size f cd).kindOf binds fun _ => none) (cellsFrom (s.heap.objs.size + 1) scope.names []) cells) (fun _ _ => False) s := by
    show wpAny _ callerA.in1 (callAny (.ref f) ⟨vals, []⟩) _ _ s
    simp only [callAny]
    refine wpAny_bind (wpAny_load ho ?_)
    obtain ⟨c, oc', vs, tq, hc, hoc, hdc, hq⟩ := hcd
    simp only [hdata, callFunction, hco, hgen]
    subst hc
    refine wpAny_bind (m := field (.ref c) 1) (wpAny_field hoc hdc hq (wpAny_bind (wpAny_pure ?_)))
    rw [hbind]
    refine wpAny_bind (wpAny_pure (wpAny_bind (wpAny_newFunctionEnv_cells hk hkind fun env' he s' x => ?_)))
    subst he
    refine wpAny_bind (wpAny_enterFrame (hlim.keeps x.toInCall.keep) (by decide) ?_)
    rw [show (docDef name params body scope pm (.ref c) doc).scope.isGenerator = false from hgen, show (docDef name params body scope pm (.ref c) doc).scope.isCoroutine = false from hco]
    refine wpAny_pure ?_
    obtain ⟨h₁, tk, rfl, _⟩ := x.done
    obtain ⟨cells, NC, Y⟩ := Cl.news (h₀ := s.heap) (Nat.le_refl _) fun n c hm => ⟨x.cell n c (lookup_of_mem_nodup (cellsFrom_names scope.names 0 (s.heap.objs.size + 1) [] [] rfl ▸ hnd) hm), x.above n c hm⟩
    exact ⟨h₁, tk, cells, rfl, rfl, ⟨x.toInCall.ns, x.toInCall.keep, x.toInCall.fresh⟩, NC, Y⟩
  refine Sem.wp_mono _ _ _ (fun fin p' s' h' => ?_) (fun _ _ _ h' => h'.elim) p s (tree _ p hb.in)
  obtain ⟨h₁, tk, cells, rfl, rfl, F, N, Y⟩ := h'
  refine ⟨rfl, ?_⟩
  rw [wpCode_iff_wp]
  show Sem.wp _ (under p body (envOfC name scope s.heap.objs.size f cd)) (do point; match ← (execs body (envOfC name scope s.heap.objs.size f cd)).onRaise (leaving (envOfC name scope s.heap.objs.size f cd)) with | .ret v => ret v | _ => ret .none) _ _ _ _
  rw [Sem.wp_bind']
  show Sem.wp _ (under p body (envOfC name scope s.heap.objs.size f cd)) ((execs body (envOfC name scope s.heap.objs.size f cd)).onRaise (leaving (envOfC name scope s.heap.objs.size f cd)) >>= _) _ _ _ _
  rw [Sem.wp_bind', Sem.wp_onRaise]
  refine Sem.wp_mono _ _ _ (fun fl p'' s'' h' => ?_) (fun _ _ _ h' => h'.elim) _ _ (h p h₁ tk cells F N Y p')
  cases fl <;> exact h'
end

end Mine
end
section
open PySem PySem.W PySem.Calls PyProof.Rows
namespace Mine
open Builtin
/-! bytes(b), of bytes and of a bytearray -/
theorem look_bytes_bytes : typeLookup (.type "bytes") "__bytes__" = pure (some (.builtin "bytes.__bytes__")) := by rw [typeLookup_type, builtinLookup_eq_fast]; kernel_rfl
theorem look_ba_bytes : typeLookup (.type "bytearray") "__bytes__" = pure none := by rw [typeLookup_type, builtinLookup_eq_fast]; kernel_rfl
theorem look_ba_index : typeLookup (.type "bytearray") "__index__" = pure none := by rw [typeLookup_type, builtinLookup_eq_fast]; kernel_rfl
theorem look_ba_buffer : typeLookup (.type "bytearray") "__buffer__" = pure (some (.builtin "bytearray.__buffer__")) := by rw [typeLookup_type, builtinLookup_eq_fast]; kernel_rfl
theorem look_ba_release : typeLookup (.type "bytearray") "__release_buffer__" = pure (some (.builtin "bytearray.__release_buffer__")) := by rw [typeLookup_type, builtinLookup_eq_fast]; kernel_rfl
theorem sub_ba : isSubtype (.type "bytearray") (.type "bytearray") = pure true := by rw [isSubtype_type]; kernel_rfl
section
variable {prog : Program} {w : World} {A : Around} {E : Value → Shared → Prop} {s : Shared} {b : Array UInt8} {t : Tok} {a : Addr}
/-- a bytearray of the heap -/
abbrev baObj (b : Array UInt8) : Obj := { cls := .type "bytearray", data := .bytearray b }
theorem ba_type (h : s.heap.get? a = some (baObj b)) : s.TypeIs (.ref a) "bytearray" := ⟨_, h, rfl⟩
theorem new_of_bytes {Q : Value → Shared → Prop} (h : Q (.bytes b t) s) : codeAny (model prog w) A (.call (.builtin "bytes.__new__") ⟨[.type "bytes", .bytes b t], []⟩) (wants Q E) s := by
  refine codeAny_of_tree ?_
  show wpAny _ A.in1 (do checkBuiltinCall "bytes.__new__" ⟨[.type "bytes", .bytes b t], []⟩; again (.builtin "bytes.__new__" ⟨[.type "bytes", .bytes b t], []⟩)) _ _ s
  refine wpAny_bind (wpAny_of_eq (F.bm_newCall _) (wpAny_pure ⟨plainId_quiet F.bm_plain _, codeAny_builtin F.bm_entry ?_⟩))
  rw [Around.under_plainId F.bm_plain _]
  have hT := typeIs_bytes s b t
  unfold Builtin.«bytes.__new__»
  refine wpAny_bind (wpAny_of_eq (a := true) rfl ?_)
  refine bm_if_false rfl ?_
  refine wpAny_bind (wpAny_of_eq F.bm_sub ?_)
  refine bm_if_false rfl ?_
  refine wpAny_bind (wpAny_of_eq (F.bm_bind _) ?_)
  refine wpAny_bind (wpAny_of_eq (a := ()) rfl ?_)
  refine wpAny_bind (wpAny_of_eq (a := ()) rfl ?_)
  refine bm_if_false rfl ?_
  refine wpAny_bind (wpAny_specialOf hT look_bytes_bytes ?_)
  refine wpAny_bind (wpAny_rule ?_)
  refine wpAny_bind (wpAny_typeOf hT ?_)
  refine bm_if_true (by decide) ?_
  show wpAny _ _ (if (Value.type "bytes" == Value.type "bytes") = true then _ else _) _ _ _
  refine bm_if_true (by decide) ?_
  first
    | exact wpAny_pure h
    | exact wpAny_bind (wpAny_pure (wpAny_pure h))
theorem buffer_ba {id : String} {full : Bool} {Q : Option (Array UInt8) → Shared → Prop} (ho : s.heap.get? a = some (baObj b)) (h : Q (some b) s) : wpAny (model prog w) A (Bytes.buffer? id (.ref a) full) Q E s := by
  have hT := ba_type ho
  have own : ∀ (nm : String) (id' : String) {Q : Bool → Shared → Prop}, typeLookup (.type "bytearray") (nm : Str) = pure (some (.builtin id')) → id'.endsWith ("." ++ nm) = true → id'.dropRight (nm.length + 1) = "bytearray" → Q true s →
      wpAny (model prog w) A (Bytes.slotIsOwn (.ref a) nm) Q E s := by
    intro nm id' Q hl he hd hq
    unfold Bytes.slotIsOwn
    refine wpAny_bind (wpAny_specialOf hT hl ?_)
    dsimp only
    rw [he, hd]
    exact wpAny_isInstance hT sub_ba hq
  unfold Bytes.buffer?
  refine wpAny_bind (wpAny_specialOf hT look_ba_buffer ?_)
  (try dsimp only)
  refine wpAny_bind (own "__buffer__" _ look_ba_buffer (by decide +kernel) (by decide +kernel) ?_)
  refine bm_if_false rfl ?_
  refine wpAny_bind (wpAny_specialOf hT look_ba_buffer ?_)
  (try dsimp only)
  refine wpAny_bind ?_
  unfold Bytes.ownRelease
  refine wpAny_bind (own "__release_buffer__" _ look_ba_release (by decide +kernel) (by decide +kernel) (wpAny_pure ?_))
  refine bm_if_false rfl ?_
  refine wpAny_bind ?_
  unfold Bytes.payload Bytes.payload?
  refine wpAny_bind (wpAny_bind (wpAny_load ho (wpAny_pure (wpAny_pure (wpAny_pure h)))))
theorem new_of_ba {Q : Value → Shared → Prop} (ho : s.heap.get? a = some (baObj b)) (hz : b.size ≤ sizeLine) (h : ∀ t k, Q (.bytes b t) { s with toks := k }) : codeAny (model prog w) A (.call (.builtin "bytes.__new__") ⟨[.type "bytes", .ref a], []⟩) (wants Q E) s := by
  refine codeAny_of_tree ?_
  show wpAny _ A.in1 (do checkBuiltinCall "bytes.__new__" ⟨[.type "bytes", .ref a], []⟩; again (.builtin "bytes.__new__" ⟨[.type "bytes", .ref a], []⟩)) _ _ s
  refine wpAny_bind (wpAny_of_eq (F.bm_newCall _) (wpAny_pure ⟨plainId_quiet F.bm_plain _, codeAny_builtin F.bm_entry ?_⟩))
  rw [Around.under_plainId F.bm_plain _]
  have hT := ba_type ho
  unfold Builtin.«bytes.__new__»
  refine wpAny_bind (wpAny_of_eq (a := true) rfl ?_)
  refine bm_if_false rfl ?_
  refine wpAny_bind (wpAny_of_eq F.bm_sub ?_)
  refine bm_if_false rfl ?_
  refine wpAny_bind (wpAny_of_eq (F.bm_bind _) ?_)
  refine wpAny_bind (wpAny_of_eq (a := ()) rfl ?_)
  refine wpAny_bind (wpAny_of_eq (a := ()) rfl ?_)
  refine bm_if_false rfl ?_
  refine wpAny_bind (wpAny_specialOf hT look_ba_bytes ?_)
  refine wpAny_bind (wpAny_bind ?_)
  show wpAny _ _ (load a >>= _) _ _ _
  refine wpAny_bind (wpAny_load ho ?_)
  refine wpAny_pure (wpAny_pure ?_)
  refine bm_if_false rfl ?_
  refine wpAny_bind (wpAny_specialOf hT look_ba_index ?_)
  refine bm_if_true rfl ?_
  first
    | show wpAny _ _ (Builtin.Bytes.buffer? "bytes.__new__" (.ref a) true >>= _) _ _ _
    | (refine wpAny_bind ?_; show wpAny _ _ (Builtin.Bytes.buffer? "bytes.__new__" (.ref a) true >>= _) _ _ _)
  refine wpAny_bind (buffer_ba ho ?_)
  refine wpAny_bind (wpAny_rule ?_)
  refine wpAny_bind (wpAny_mkBytes ?_ hz)
  show wpAny _ _ (if (Value.type "bytes" == Value.type "bytes") = true then _ else _) _ _ _
  refine bm_if_true (by decide) ?_
  first
    | exact wpAny_pure (h _ _)
    | exact wpAny_bind (wpAny_pure (wpAny_pure (h _ _)))
theorem bytes_of {v : Value} {Q : Value → Shared → Prop} (hn : codeAny (model prog w) A.in1 (.call (.builtin "bytes.__new__") ⟨[.type "bytes", v], []⟩) (wants (fun obj s₁ => s₁.TypeIs obj "bytes" ∧ Q obj s₁) E) s) : wpAny (model prog w) A (call (.type "bytes") [v]) Q E s :=
  callType_codes (Q₁ := fun obj s₁ => s₁.TypeIs obj "bytes" ∧ Q obj s₁) F.bm_called (F.bm_typeCall _) F.entry_object_init hn fun obj s₁ h₁ =>
    ⟨h₁.1, F.args_object_init_2 obj _, object_init_meets F.bm_called.init.lookup F.bm_called.made (by decide) prog w A.in1 _ s₁ ⟨h₁.1, rfl, h₁.2⟩⟩
/-- bytes(b) of bytes: the same -/
theorem bytes_bytes {Q : Value → Shared → Prop} (h : Q (.bytes b t) s) : wpAny (model prog w) A (call (.type "bytes") [.bytes b t]) Q E s := bytes_of (new_of_bytes ⟨typeIs_bytes _ _ _, h⟩)
/-- bytes(b) of a bytearray: its octets -/
theorem bytes_ba {Q : Value → Shared → Prop} (ho : s.heap.get? a = some (baObj b)) (hz : b.size ≤ sizeLine) (h : ∀ t k, Q (.bytes b t) { s with toks := k }) : wpAny (model prog w) A (call (.type "bytes") [.ref a]) Q E s :=
  bytes_of (new_of_ba ho hz fun t k => ⟨typeIs_bytes _ _ _, h t k⟩)
end

end Mine
end
section
open PySem PySem.W PySem.Calls PyProof.Rows
namespace Mine
open Builtin
/-! bytes compared by < and > -/
theorem slot_bytes_lt : Slot "bytes" (cmpInfo .Lt).2.1 "bytes.__lt__" :=
  .of (owner := "bytes") (n := "__lt__") (by rw [typeLookup_type, builtinLookup_eq_fast]; kernel_rfl) (by decide +kernel) (by decide +kernel) (by decide +kernel)
    (by first | exact .inl (by decide +kernel) | exact .inr (by decide +kernel)) (by rw [isSubtype_type]; kernel_rfl)
theorem slot_bytes_gt : Slot "bytes" (cmpInfo .Gt).2.1 "bytes.__gt__" :=
  .of (owner := "bytes") (n := "__gt__") (by rw [typeLookup_type, builtinLookup_eq_fast]; kernel_rfl) (by decide +kernel) (by decide +kernel) (by decide +kernel)
    (by first | exact .inl (by decide +kernel) | exact .inr (by decide +kernel)) (by rw [isSubtype_type]; kernel_rfl)
theorem entry_bytes_lt : entryFor table "bytes.__lt__" = some Builtin.«bytes.__lt__» := entryFor_of_tree (by kernel_rfl)
theorem entry_bytes_gt : entryFor table "bytes.__gt__" = some Builtin.«bytes.__gt__» := entryFor_of_tree (by kernel_rfl)
theorem args_bytes_lt (a b : Value) : argsOk "bytes.__lt__" ⟨[a, b], []⟩ := by
  unfold argsOk; rw [signature?_of (id := "bytes.__lt__") (n := ['_', '_', 't', 'l', '_', '_']) (o := ['s', 'e', 't', 'y', 'b']) (by kernel_rfl) FB.owner_bytes]; kernel_rfl
theorem args_bytes_gt (a b : Value) : argsOk "bytes.__gt__" ⟨[a, b], []⟩ := by
  unfold argsOk; rw [signature?_of (id := "bytes.__gt__") (n := ['_', '_', 't', 'g', '_', '_']) (o := ['s', 'e', 't', 'y', 'b']) (by kernel_rfl) FB.owner_bytes]; kernel_rfl
/-- the order of two rows of octets -/
def ordB (b c : Array UInt8) : Ordering := Bytes.order b.toList c.toList
theorem gives_bytes_lt (b c : Array UInt8) (t u : Tok) : Gives («bytes.__lt__» ⟨[.bytes b t, .bytes c u], []⟩) (.val (.bool (ordB b c == .lt))) := by
  refine .of_wp fun M A E s Q hq => ?_
  show wpAny M A (isInstance (.bytes c u) (.type "bytes") >>= fun r => _) _ E s
  refine wpAny_bind (wpAny_isInstance (typeIs_bytes s c u) F.sub_bytes_bytes ?_)
  exact wpAny_pure ⟨_, rfl, hq⟩
theorem gives_bytes_gt (b c : Array UInt8) (t u : Tok) : Gives («bytes.__gt__» ⟨[.bytes b t, .bytes c u], []⟩) (.val (.bool (ordB b c == .gt))) := by
  refine .of_wp fun M A E s Q hq => ?_
  show wpAny M A (isInstance (.bytes c u) (.type "bytes") >>= fun r => _) _ E s
  refine wpAny_bind (wpAny_isInstance (typeIs_bytes s c u) F.sub_bytes_bytes ?_)
  exact wpAny_pure ⟨_, rfl, hq⟩
section
variable {prog : Program} {w : World} {A : Around} {E : Value → Shared → Prop} {s : Shared} {b c : Array UInt8} {t u : Tok}
theorem lt_bytes {Q : Value → Shared → Prop} (h : Q (.bool (ordB b c == .lt)) s) : wpAny (model prog w) A (compareOp .Lt (.bytes b t) (.bytes c u)) Q E s :=
  compareOp_gives (op := .Lt) (typeIs_bytes s b t) (typeIs_bytes s c u) slot_bytes_lt entry_bytes_lt (args_bytes_lt _ _) (gives_bytes_lt b c t u) (fun e => nomatch e) h
theorem gt_bytes {Q : Value → Shared → Prop} (h : Q (.bool (ordB b c == .gt)) s) : wpAny (model prog w) A (compareOp .Gt (.bytes b t) (.bytes c u)) Q E s :=
  compareOp_gives (op := .Gt) (typeIs_bytes s b t) (typeIs_bytes s c u) slot_bytes_gt entry_bytes_gt (args_bytes_gt _ _) (gives_bytes_gt b c t u) (fun e => nomatch e) h
end
/-! a bytearray: its length, an octet, a piece, an octet stored -/
theorem owner_ba : Manifest.owners.lookup (String.ofList ['y', 'a', 'r', 'r', 'a', 'e', 't', 'y', 'b'].reverse) = some Manifest.sig_bytearray := by kernel_rfl
theorem slot_ba_len : Slot "bytearray" "__len__" "bytearray.__len__" :=
  .of (owner := "bytearray") (n := "__len__") (by rw [typeLookup_type, builtinLookup_eq_fast]; kernel_rfl) (by decide +kernel) (by decide +kernel) (by decide +kernel)
    (by first | exact .inl (by decide +kernel) | exact .inr (by decide +kernel)) (by rw [isSubtype_type]; kernel_rfl)
theorem slot_ba_getitem : Slot "bytearray" "__getitem__" "bytearray.__getitem__" :=
  .of (owner := "bytearray") (n := "__getitem__") (by rw [typeLookup_type, builtinLookup_eq_fast]; kernel_rfl) (by decide +kernel) (by decide +kernel) (by decide +kernel)
    (by first | exact .inl (by decide +kernel) | exact .inr (by decide +kernel)) (by rw [isSubtype_type]; kernel_rfl)
theorem slot_ba_setitem : Slot "bytearray" "__setitem__" "bytearray.__setitem__" :=
  .of (owner := "bytearray") (n := "__setitem__") (by rw [typeLookup_type, builtinLookup_eq_fast]; kernel_rfl) (by decide +kernel) (by decide +kernel) (by decide +kernel)
    (by first | exact .inl (by decide +kernel) | exact .inr (by decide +kernel)) (by rw [isSubtype_type]; kernel_rfl)
theorem entry_ba_len : entryFor table "bytearray.__len__" = some Builtin.«bytearray.__len__» := entryFor_of_tree (by kernel_rfl)
theorem entry_ba_getitem : entryFor table "bytearray.__getitem__" = some Builtin.«bytearray.__getitem__» := entryFor_of_tree (by kernel_rfl)
theorem entry_ba_setitem : entryFor table "bytearray.__setitem__" = some Builtin.«bytearray.__setitem__» := entryFor_of_tree (by kernel_rfl)
theorem args_ba_len (a : Value) : argsOk "bytearray.__len__" ⟨[a], []⟩ := by
  unfold argsOk; rw [signature?_of (id := "bytearray.__len__") (n := ['_', '_', 'n', 'e', 'l', '_', '_']) (o := ['y', 'a', 'r', 'r', 'a', 'e', 't', 'y', 'b']) (by kernel_rfl) owner_ba]; kernel_rfl
theorem args_ba_getitem (a b : Value) : argsOk "bytearray.__getitem__" ⟨[a, b], []⟩ := by
  unfold argsOk; rw [signature?_of (id := "bytearray.__getitem__") (n := ['_', '_', 'm', 'e', 't', 'i', 't', 'e', 'g', '_', '_']) (o := ['y', 'a', 'r', 'r', 'a', 'e', 't', 'y', 'b']) (by kernel_rfl) owner_ba]; kernel_rfl
theorem args_ba_setitem (a b c : Value) : argsOk "bytearray.__setitem__" ⟨[a, b, c], []⟩ := by
  unfold argsOk; rw [signature?_of (id := "bytearray.__setitem__") (n := ['_', '_', 'm', 'e', 't', 'i', 't', 'e', 's', '_', '_']) (o := ['y', 'a', 'r', 'r', 'a', 'e', 't', 'y', 'b']) (by kernel_rfl) owner_ba]; kernel_rfl
theorem payload_ba {M : Model} {A : Around} {E : Value → Shared → Prop} {s : Shared} {a : Addr} {b : Array UInt8} {Q : Array UInt8 → Shared → Prop} (ho : s.heap.get? a = some (baObj b)) (h : Q b s) : wpAny M A (Bytes.payload (.ref a)) Q E s := by
  unfold Bytes.payload Bytes.payload?
  exact wpAny_bind (wpAny_bind (wpAny_load ho (wpAny_pure (wpAny_pure h))))
theorem meets_ba_len (a : Addr) (b : Array UInt8) : Meets («bytearray.__len__» ⟨[.ref a], []⟩) (fun _ R s => s.heap.get? a = some (baObj b) ∧ R (.ok (.ret (.int b.size s.toks))) { s with toks := s.toks + 1 }) := by
  refine .of_wp fun prog w A R s hS => ?_
  obtain ⟨ho, h⟩ := hS
  show wpAny _ _ (Bytes.payload (.ref a) >>= fun r => _) _ _ s
  exact wpAny_bind (payload_ba ho (wpAny_bind (wpAny_mkInt (wpAny_pure ⟨_, rfl, h⟩))))
theorem meets_ba_item (a : Addr) (b : Array UInt8) (i : Int) (u : Tok) (c : UInt8) (hr : Bytes.fitsIndex i = true) (hc : (seqIndex? i b.size).bind (b[·]?) = some c) :
    Meets («bytearray.__getitem__» ⟨[.ref a, .int i u], []⟩) (fun _ R s => s.heap.get? a = some (baObj b) ∧ R (.ok (.ret (.int c.toNat s.toks))) { s with toks := s.toks + 1 }) := by
  refine .of_wp fun prog w A R s hS => ?_
  obtain ⟨ho, h⟩ := hS
  show wpAny _ _ (Bytes.subscript? (.int i u) >>= fun r => _) _ _ s
  refine wpAny_bind ?_
  unfold Bytes.subscript?
  refine wpAny_bind (wpAny_specialOf (typeIs_int s i u) F.slot_int_index.lookup ?_)
  show wpAny _ _ (if (!Bytes.fitsIndex i) = true then _ else pure (some i)) _ _ s
  rw [hr]
  refine wpAny_pure ?_
  show wpAny _ _ (Bytes.payload (.ref a) >>= fun r => _) _ _ s
  refine wpAny_bind (payload_ba ho ?_)
  show wpAny _ _ (match (seqIndex? i b.size).bind (b[·]?) with | some x => retInt x.toNat | none => _) _ _ s
  rw [hc]
  exact wpAny_bind (wpAny_mkInt (wpAny_pure ⟨_, rfl, h⟩))
theorem meets_ba_cut (o : Addr) (b : Array UInt8) (a : Addr) {l u : Value} {lo hi : Option Int} (hl : IsPart l lo) (hu : IsPart u hi) :
    Meets («bytearray.__getitem__» ⟨[.ref o, .ref a], []⟩) (fun _ R s => s.heap.get? o = some (baObj b) ∧ s.heap.IsSliceOf a l u .none ∧ (KBy.picked b lo hi).size ≤ sizeLine ∧
      R (.ok (.ret (.ref s.heap.objs.size))) { s with heap := s.heap.push (baObj (KBy.picked b lo hi)) }) := by
  refine .of_wp fun prog w A R s hS => ?_
  obtain ⟨hb, ⟨os, ho, hc, hd⟩, hsz, h⟩ := hS
  have hT : s.TypeIs (.ref a) "slice" := ⟨os, ho, hc⟩
  show wpAny _ _ (Bytes.subscript? (.ref a) >>= fun r => _) _ _ s
  refine wpAny_bind ?_
  unfold Bytes.subscript?
  refine wpAny_bind (wpAny_specialOf hT slice_no_index (wpAny_pure ?_))
  refine wpAny_bind (wpAny_typeOf hT ?_)
  show wpAny _ _ (Bytes.sliceParts (.ref a) >>= fun r => _) _ _ s
  refine wpAny_bind ?_
  unfold Bytes.sliceParts
  refine wpAny_bind (wpAny_field (x := .none) ho hd rfl ?_)
  kby_none
  refine wpAny_ite (KBy.ite_no (show ¬ ((Value.none == rawInt 0) = true) from Bool.false_ne_true) ?_)
  refine wpAny_bind (wpAny_field (x := l) ho hd rfl ?_)
  have go : wpAny (model prog w) A.in1 (sliceIndices (rawPart lo) (rawPart hi) (rawPart none) b.size) (fun r s' => r = sliceBounds lo hi none b.size ∧ s' = s) (fun _ _ => False) s :=
    wpAny_of_eq (sliceIndices_raw lo hi none b.size (fun e => nomatch e)) ⟨rfl, rfl⟩
  cases hl <;> cases hu <;> (first
    | (kby_none; (refine wpAny_bind (wpAny_field (x := .none) ho hd rfl ?_)); kby_none)
    | (kby_none; (refine wpAny_bind (wpAny_field (x := .int _ _) ho hd rfl ?_)); kby_int)
    | (kby_int; (refine wpAny_bind (wpAny_field (x := .none) ho hd rfl ?_)); kby_none)
    | (kby_int; (refine wpAny_bind (wpAny_field (x := .int _ _) ho hd rfl ?_)); kby_int)) <;> refine wpAny_pure ?_
  all_goals
    refine wpAny_bind (payload_ba hb ?_)
    refine wpAny_bind (wpAny_mono go (fun r s' hr => ?_) fun _ _ e => e.elim)
    obtain ⟨hr1, hr2⟩ := hr
    subst hr1 hr2
    refine wpAny_bind ?_
    unfold Bytes.newBytearray
    exact wpAny_newObj_type (wpAny_pure ⟨_, rfl, h⟩) hsz
theorem byte_seven {M : Model} {A : Around} {E : Value → Shared → Prop} {s : Shared} {i : Int} {t : Tok} {Q : UInt8 → Shared → Prop} (h0 : 0 ≤ i) (h1 : i < 256) (h : Q i.toNat.toUInt8 s) : wpAny M A (Bytes.byteValue (.int i t)) Q E s := by
  unfold Bytes.byteValue
  refine wpAny_bind (wpAny_of_eq (rfl : asIndex (.int i t) = pure i) ?_)
  refine bm_if_false (by simp only [Bool.or_eq_false_iff, decide_eq_false_iff_not]; omega) ?_
  first | exact wpAny_pure h | exact wpAny_bind (wpAny_pure (wpAny_pure h))
theorem write_ba {M : Model} {A : Around} {E : Value → Shared → Prop} {s : Shared} {a : Addr} {b : Array UInt8} {f : Array UInt8 → Array UInt8} {Q : Unit → Shared → Prop} (ho : s.heap.get? a = some (baObj b)) (hz : (f b).size ≤ sizeLine)
    (h : Q () { s with heap := s.heap.update a (Obj.mapBytearray f) }) : wpAny M A (Bytes.write (.ref a) f) Q E s := by
  show wpAny M A (updateBytearray a f) Q E s
  unfold updateBytearray
  refine wpAny_bind (wpAny_load ho ?_)
  show wpAny _ _ (update a (Obj.mapBytearray f) >>= fun _ => lookBehind a) _ _ _
  refine wpAny_bind (wpAny_update ho ?_)
  refine wpAny_lookBehind (Heap.get?_update_self (Obj.mapBytearray f) ho rfl) ?_ h
  show (if (f b).size > sizeLine then some "bytearray:memory" else none) = none
  rw [if_neg (Nat.not_lt.mpr hz)]
theorem meets_ba_set (a : Addr) (b : Array UInt8) (i v : Int) (u t : Tok) (j : Nat) (hr : Bytes.fitsIndex i = true) (hj : seqIndex? i b.size = some j) (h0 : 0 ≤ v) (h1 : v < 256) (hz : b.size ≤ sizeLine) :
    Meets («bytearray.__setitem__» ⟨[.ref a, .int i u, .int v t], []⟩) (fun _ R s => s.heap.get? a = some (baObj b) ∧ R (.ok (.ret .none)) { s with heap := s.heap.update a (Obj.mapBytearray (·.setIfInBounds j v.toNat.toUInt8)) }) := by
  refine .of_wp fun prog w A R s hS => ?_
  obtain ⟨ho, h⟩ := hS
  show wpAny _ _ (Bytes.subscript? (.int i u) >>= fun r => _) _ _ s
  refine wpAny_bind ?_
  unfold Bytes.subscript?
  refine wpAny_bind (wpAny_specialOf (typeIs_int s i u) F.slot_int_index.lookup ?_)
  show wpAny _ _ (if (!Bytes.fitsIndex i) = true then _ else pure (some i)) _ _ s
  rw [hr]
  refine wpAny_pure ?_
  show wpAny _ _ (Bytes.byteValue (.int v t) >>= fun r => _) _ _ s
  refine wpAny_bind (byte_seven h0 h1 ?_)
  refine wpAny_bind (payload_ba ho ?_)
  rw [hj]
  show wpAny _ _ (Bytes.write (.ref a) (fun x => x.setIfInBounds j v.toNat.toUInt8) >>= fun _ => _) _ _ s
  refine wpAny_bind (write_ba ho ?_ (wpAny_pure ⟨_, rfl, h⟩))
  show (b.setIfInBounds j v.toNat.toUInt8).size ≤ sizeLine
  rw [Array.size_setIfInBounds]; exact hz

end Mine
end
section
open PySem PySem.W PySem.Calls PyProof.Rows
namespace Mine
open Builtin
theorem fits_of {i : Int} (h0 : 0 ≤ i) (h1 : i < 1099511627776) : Bytes.fitsIndex i = true := by
  simp only [Bytes.fitsIndex, Bool.and_eq_true, decide_eq_true_eq]; omega
theorem seqIndex_of {i : Int} {n : Nat} (h0 : 0 ≤ i) (h1 : i < (n : Int)) : seqIndex? i n = some i.toNat := by
  have hn : ¬ i < 0 := by omega
  simp [seqIndex?, hn, h0, h1]
theorem ints_inj {b c : Array UInt8} (h : KBw.bInts b = KBw.bInts c) : b = c := by
  have e : ∀ l r : List UInt8, l.map (fun c => ((c.toNat : Nat) : Int)) = r.map (fun c => ((c.toNat : Nat) : Int)) → l = r := by
    intro l
    induction l with
    | nil => intro r h; cases r with | nil => rfl | cons y r => cases h
    | cons x l ih =>
      intro r h
      cases r with
      | nil => cases h
      | cons y r =>
        simp only [List.map_cons, List.cons.injEq] at h
        rw [ih r h.2, UInt8.toNat_inj.mp (Int.ofNat_inj.mp h.1)]
  have := e b.toList c.toList h
  rw [← Array.toArray_toList (xs := b), this, Array.toArray_toList]
section
variable {prog : Program} {w : World} {A : Around} {E : Value → Shared → Prop} {s : Shared} {h₀ : Heap} {L a : Addr} {m : Str → Option Value} {news : List (Addr × Obj)} {b : Array UInt8} {ks : List Int} {i : Int} {u : Tok} {value slice : PySem.Expr}
theorem len_ba {Q : Value → Shared → Prop} (N : News h₀ L s.heap news) (hm : (a, baObj b) ∈ news) (hk : KBw.bInts b = ks) (hz : ks.length ≤ 1000)
    (h : Q (.int (ks.length : Nat) (s.toks + 1)) { s with toks := s.toks + 1 + 1 }) : wpAny (model prog w) A (call (.builtin "len") [.ref a]) Q E s := by
  subst hk
  rw [KBw.ints_length] at hz h
  exact call_len_meets (ba_type (N.get hm)) slot_ba_len entry_ba_len (args_ba_len _) (meets_ba_len a b) (by omega) (by omega) (fun Q' hq => ⟨N.get hm, hq⟩) h
theorem item_ba {Q : Value → Shared → Prop} (N : News h₀ L s.heap news) (hm : (a, baObj b) ∈ news) (hk : KBw.bInts b = ks) (hz : ks.length ≤ 1000) (h0 : 0 ≤ i) (h1 : i < (ks.length : Int))
    (h : ∀ t' k, 0 ≤ ks.getD i.toNat 0 → ks.getD i.toNat 0 < 256 → Q (.int (ks.getD i.toNat 0) t') { s with toks := k })
    {ops : List Value} (hs : subscripted slice false (.ref a) (.int i u) = operate ops (getItem (.ref a) (.int i u)))
    (ht : ∀ r, letTemporaryGo value (.ref a) r = pure ()) : wpAny (model prog w) A (subscriptTail value slice (.ref a) (.int i u)) Q E s := by
  subst hk
  have hin := KBw.getD_in (ks := KBw.bInts b) (j := i.toNat) fun k hk => KBw.ints_in hk
  have hl : i.toNat < b.size := by rw [KBw.ints_length] at h1; omega
  refine tail_of_ItemOn ⟨"bytearray", _, slot_ba_getitem.lookup, ba_type (N.get hm), getItem_meets (ba_type (N.get hm)) (by decide) slot_ba_getitem entry_ba_getitem (args_ba_getitem _ _)
    (meets_ba_item a b i u (b.toList.getD i.toNat 0) (fits_of h0 (by omega)) ?_) ⟨N.get hm, ?_⟩⟩ hs ht
  · rw [seqIndex_of h0 (by rw [KBw.ints_length] at h1; exact h1)]
    simp [hl]
  · show Q (.int ((b.toList.getD i.toNat 0).toNat : Int) _) _
    rw [KBw.getD_ints]
    exact h _ _ hin.1 hin.2
theorem cut_ba {Q : Value → Shared → Prop} {l r : Value} {lo hi : Option Int} (hF : Fr h₀ L s.heap m) (hN : News h₀ L s.heap news) (hm : (a, baObj b) ∈ news) (hk : KBw.bInts b = ks) (hl : IsPart l lo) (hu : IsPart r hi) (hz : ks.length ≤ 1000)
    (h : ∀ D h' k, Fr h₀ L h' m → News h₀ L h' ((D, baObj (KBy.picked b lo hi)) :: news) → (∀ p ∈ news, p.1 < D) →
      KBw.bInts (KBy.picked b lo hi) = (ks.drop (lo.elim 0 (clipAt ks.length))).take (hi.elim ks.length (clipAt ks.length) - lo.elim 0 (clipAt ks.length)) → Q (.ref D) { s with heap := h', toks := k })
    {ops : List Value} (hs : subscripted slice false (.ref a) (.ref s.heap.objs.size) = operate ops (getItem (.ref a) (.ref s.heap.objs.size)))
    (ht : ∀ r, letTemporaryGo value (.ref a) r = pure ()) :
    wpAny (model prog w) A (subscriptTail value slice (.ref a) (.ref s.heap.objs.size)) Q E { s with heap := s.heap.push { cls := .type "slice", data := .fields #[l, r, .none] } } := by
  have F₁ := hF.push { cls := .type "slice", data := .fields #[l, r, .none] }
  have N₁ : News h₀ L (s.heap.push { cls := .type "slice", data := .fields #[l, r, .none] }) news := News.pushKeep hN _
  have hT : ({ s with heap := s.heap.push { cls := .type "slice", data := .fields #[l, r, .none] } } : Shared).TypeIs (.ref a) "bytearray" := ba_type (s := { s with heap := s.heap.push { cls := .type "slice", data := .fields #[l, r, .none] } }) (N₁.get hm)
  refine tail_of_ItemOn ⟨"bytearray", _, slot_ba_getitem.lookup, hT, getItem_meets hT (by decide) slot_ba_getitem entry_ba_getitem (args_ba_getitem _ _)
    (meets_ba_cut a b _ hl hu) ⟨N₁.get hm, Heap.IsSliceOf.new _ _ _ _, ?_, h _ _ _ (F₁.push _) (N₁.push F₁ _) (fun p hp => Heap.lt_size (N₁ p hp).1) (KBc.ints_picked hk lo hi)⟩⟩ hs ht
  refine Nat.le_trans (KBc.size_picked_le b lo hi) ?_
  rw [← KBw.ints_length b, hk, sizeLine_eq]; omega
theorem bytes_ba_K {Q : Value → Shared → Prop} (N : News h₀ L s.heap news) (hm : (a, baObj b) ∈ news) (hk : KBw.bInts b = ks) (hz : ks.length ≤ 1000) (h : ∀ t k, Q (.bytes b t) { s with toks := k }) :
    wpAny (model prog w) A (call (.type "bytes") [.ref a]) Q E s := bytes_ba (N.get hm) (by rw [← KBw.ints_length b, hk, sizeLine_eq]; omega) h
theorem set_ba {own rest : List (Addr × Obj)} {v : Int} {t : Tok} {Q : Unit → Shared → Prop} (F : Fr h₀ L s.heap m) (N : News h₀ L s.heap (own ++ (a, baObj b) :: rest)) (h1 : ∀ p ∈ own, p.1 ≠ a) (h2 : ∀ p ∈ rest, p.1 ≠ a)
    (hk : KBw.bInts b = ks) (hz : ks.length ≤ 1000) (h0 : 0 ≤ i) (hi : i < (ks.length : Int)) (v0 : 0 ≤ v) (v1 : v < 256)
    (h : ∀ h' k, Fr h₀ L h' m → News h₀ L h' (own ++ (a, baObj (b.setIfInBounds i.toNat v.toNat.toUInt8)) :: rest) → Q () { s with heap := h', toks := k }) :
    wpAny (model prog w) A (setItem (.ref a) (.int i u) (.int v t)) Q E s := by
  subst hk
  rw [KBw.ints_length] at hz hi
  have hm := N (a, baObj b) (List.mem_append_right _ (.head _))
  have hT := ba_type hm.1
  unfold setItem
  try with_reducible refine wpAny_holding ?_
  first | refine wpAny_bind (wpAny_pure ?_) | skip
  refine wpAny_bind (wpAny_sequenceKey hT (by decide) ?_)
  refine wpAny_bind (wpAny_callSpecial?_slot (name := Str.ofString "__setitem__") hT slot_ba_setitem
    (call_meets slot_ba_setitem hT entry_ba_setitem (args_ba_setitem _ _ _) (meets_ba_set a b i v u t i.toNat (fits_of h0 (by omega)) (seqIndex_of h0 hi) v0 v1 (by rw [sizeLine_eq]; omega)) ⟨hm.1, ?_⟩))
  refine wpAny_pure ?_
  have hs : Heap.SameBut a s.heap (s.heap.update a (Obj.mapBytearray (·.setIfInBounds i.toNat v.toNat.toUInt8))) := Heap.SameBut.update ..
  have hget : (s.heap.update a (Obj.mapBytearray (·.setIfInBounds i.toNat v.toNat.toUInt8))).get? a = some (baObj (b.setIfInBounds i.toNat v.toNat.toUInt8)) :=
    Heap.get?_update_self (Obj.mapBytearray (·.setIfInBounds i.toNat v.toNat.toUInt8)) hm.1 rfl
  exact h _ _ (F.change hs hm.2.1 hm.2.2) (N.setIn h1 h2 hs hget)
end

end Mine
end
section
open PySem PySem.W PySem.Calls PyProof.Rows
namespace Mine
open Builtin
theorem clip_less {n k : Nat} (h : k ≤ n) : clipAt n ((n : Int) - (k : Int)) = n - k := by
  have e : ((n : Int) - (k : Int)) = ((n - k : Nat) : Int) := by omega
  rw [e, clipAt_nat]; omega
theorem bitOr_nat {x y : Int} (hx : 0 ≤ x) (hy : 0 ≤ y) : Builtin.bitOr x y = ((x.toNat ||| y.toNat : Nat) : Int) := by
  have e1 : ¬ (0 ≤ Builtin.bitNot x) := by show ¬ (0 ≤ -x - 1); omega
  have e2 : ¬ (0 ≤ Builtin.bitNot y) := by show ¬ (0 ≤ -y - 1); omega
  have n1 : Builtin.bitNot (Builtin.bitNot x) = x := by show -(-x - 1) - 1 = x; omega
  have n2 : Builtin.bitNot (Builtin.bitNot y) = y := by show -(-y - 1) - 1 = y; omega
  have n3 : ∀ z : Int, Builtin.bitNot (Builtin.bitNot z) = z := fun z => by show -(-z - 1) - 1 = z; omega
  unfold Builtin.bitOr Builtin.bitAnd
  simp only [e1, e2, decide_false, n1, n2, n3]
theorem bitOr_lo {a x c : Int} {k : Nat} (e : (2 : Int) ^ k = c) (h0 : 0 ≤ a) (h1 : a < c) (hx : 0 ≤ x) : Builtin.bitOr a (x * c) = a + x * c := by
  subst e
  have hp : (0 : Int) < 2 ^ k := kbt_pos k
  have hm : 0 ≤ x * 2 ^ k := Int.mul_nonneg hx (Int.le_of_lt hp)
  rw [bitOr_nat h0 hm]
  obtain ⟨n, rfl⟩ := Int.eq_ofNat_of_zero_le h0
  obtain ⟨y, rfl⟩ := Int.eq_ofNat_of_zero_le hx
  have e2 : ((y : Int) * 2 ^ k) = ((2 ^ k * y : Nat) : Int) := by rw [Int.natCast_mul, kbt_cast]; exact Int.mul_comm _ _
  rw [e2, Int.toNat_natCast, Int.toNat_natCast]
  have hl : n < 2 ^ k := by rw [← kbt_cast] at h1; exact_mod_cast h1
  rw [Nat.or_comm, ← Nat.two_pow_add_eq_or_of_lt hl y]
  omega
theorem bitOr_hi {a x c : Int} {k : Nat} (e : (2 : Int) ^ k = c) (h0 : 0 ≤ a) (h1 : a < c) (hx : 0 ≤ x) : Builtin.bitOr (x * c) a = x * c + a := by
  have hc : 0 < c := by rw [← e]; exact kbt_pos k
  have hm : 0 ≤ x * c := Int.mul_nonneg hx (Int.le_of_lt hc)
  have q := bitOr_lo e h0 h1 hx
  rw [bitOr_nat h0 hm] at q
  rw [bitOr_nat hm h0, Nat.or_comm, q]
  omega
section
variable {prog : Program} {w : World} {A : Around} {E : Value → Shared → Prop} {s : Shared} {a x c n : Int} {t u : Tok} {k : Nat} {Q : Value → Shared → Prop}
theorem shl_K (c : Int) (hn : 0 ≤ n) (hn2 : n ≤ 1000000) (e : (2 : Int) ^ n.toNat = c) (h0 : 0 ≤ a) (h1 : a < 18446744073709551616) (h : Q (.int (a * c) s.toks) { s with toks := s.toks + 1 }) : wpAny (model prog w) A (binaryOp .LShift (.int a t) (.int n u)) Q E s := by
  subst e
  exact lshift_int_small hn hn2 (by omega) h
theorem shr_K (c : Int) (hn : 0 ≤ n) (e : (2 : Int) ^ n.toNat = c) (h0 : 0 ≤ a) (h : Q (.int (a / c) s.toks) { s with toks := s.toks + 1 }) : wpAny (model prog w) A (binaryOp .RShift (.int a t) (.int n u)) Q E s := by
  subst e
  refine rshift_int hn ?_
  rw [Int.fdiv_eq_ediv_of_nonneg _ (Int.le_of_lt (kbt_pos _))]
  exact h
theorem or_lo_K (c : Int) (k : Nat) (e : (2 : Int) ^ k = c) (h0 : 0 ≤ a) (h1 : a < c) (hx : 0 ≤ x) (h : Q (.int (a + x * c) s.toks) { s with toks := s.toks + 1 }) : wpAny (model prog w) A (binaryOp .BitOr (.int a t) (.int (x * c) u)) Q E s := by
  refine or_int ?_
  rw [bitOr_lo e h0 h1 hx]
  exact h
theorem or_hi_K (c : Int) (k : Nat) (e : (2 : Int) ^ k = c) (h0 : 0 ≤ a) (h1 : a < c) (hx : 0 ≤ x) (h : Q (.int (x * c + a) s.toks) { s with toks := s.toks + 1 }) : wpAny (model prog w) A (binaryOp .BitOr (.int (x * c) t) (.int a u)) Q E s := by
  refine or_int ?_
  rw [bitOr_hi e h0 h1 hx]
  exact h
theorem and8_K (h : Q (.int (a % 256) s.toks) { s with toks := s.toks + 1 }) : wpAny (model prog w) A (binaryOp .BitAnd (.int a t) (.int 255 u)) Q E s := by
  refine and_int ?_
  rw [bitAnd_m8]
  exact h
theorem and32_K (h : Q (.int (a % 4294967296) s.toks) { s with toks := s.toks + 1 }) : wpAny (model prog w) A (binaryOp .BitAnd (.int a t) (.int 4294967295 u)) Q E s := by
  refine and_int ?_
  rw [bitAnd_m32]
  exact h
end

end Mine
end
section
open PySem PySem.W PySem.Calls PyProof.Rows
namespace Mine
open Builtin
section
variable {prog : Program} {w : World} {A : Around} {E : Value → Shared → Prop} {s : Shared}
theorem log_small {b : Int} (h0 : 0 < b) (h1 : b < 1073741824) : b.natAbs.log2 < 9000 := by
  have h30 : b.natAbs.log2 < 30 := (Nat.log2_lt (by omega)).mpr (by omega)
  omega
theorem log_pow {a : Int} {n : Nat} (h0 : 0 < a) (h1 : a < 1000000) (hn : n ≤ 100) : (a ^ n).natAbs.log2 < 9000 := by
  have hp : 0 < a ^ n := pow_pos_of h0 _
  have h2 : (a ^ n).natAbs < 2 ^ 2001 := by
    rw [Int.natAbs_pow]
    have h3 : a.natAbs ≤ 2 ^ 20 := by omega
    have h4 : a.natAbs ^ n ≤ (2 ^ 20) ^ n := Nat.pow_le_pow_left h3 n
    have h5 : (2 ^ 20) ^ n = 2 ^ (20 * n) := (Nat.pow_mul 2 20 n).symm
    have h6 : 2 ^ (20 * n) ≤ 2 ^ 2000 := Nat.pow_le_pow_right (by decide) (by omega)
    have h7 : (2 : Nat) ^ 2000 < 2 ^ 2001 := Nat.pow_lt_pow_right (by decide) (by decide)
    rw [h5] at h4
    exact Nat.lt_of_le_of_lt (Nat.le_trans h4 h6) h7
  have h8 : (a ^ n).natAbs.log2 < 2001 := (Nat.log2_lt (by omega)).mpr h2
  omega
theorem fdiv_K {a b : Int} {t u : Tok} {Q : Value → Shared → Prop} (hb : 0 < b) (hl : b.natAbs.log2 < 9000) (h : Q (.int (a / b) s.toks) { s with toks := s.toks + 1 }) : wpAny (model prog w) A (binaryOp .FloorDiv (.int a t) (.int b u)) Q E s := by
  refine floordiv_int (by omega) ?_ (.inl (PyProof.noPylong_of_log2 hl))
  rw [Int.fdiv_eq_ediv_of_nonneg _ (Int.le_of_lt hb)]
  exact h
theorem fmod_K {a b : Int} {t u : Tok} {Q : Value → Shared → Prop} (hb : 0 < b) (h : Q (.int (a % b) s.toks) { s with toks := s.toks + 1 }) : wpAny (model prog w) A (binaryOp .Mod (.int a t) (.int b u)) Q E s := by
  refine mod_int' (by omega) ?_
  rw [Int.fmod_eq_emod_of_nonneg _ (Int.le_of_lt hb)]
  exact h
theorem pow_K {a n : Int} {t u : Tok} {Q : Value → Shared → Prop} (hn : 0 ≤ n) (hn2 : n ≤ 100) (h0 : 0 < a) (h1 : a < 1000000) (h : 0 < a ^ n.toNat → (a ^ n.toNat).natAbs.log2 < 9000 → Q (.int (a ^ n.toNat) s.toks) { s with toks := s.toks + 1 }) : wpAny (model prog w) A (binaryOp .Pow (.int a t) (.int n u)) Q E s :=
  pow_int_small hn (by omega) (by omega) (h (pow_pos_of h0 _) (log_pow h0 h1 (by omega)))
theorem pow_lim {k n : Int} (h : k < 0 + ((n - 0).toNat : Int)) (hn : n ≤ 100) : k ≤ 100 := by omega
theorem menu_b {l : List Int} {lo hi : Int} (h : ∀ k ∈ l, lo ≤ k ∧ k < hi) (h0 : lo ≤ 0) (h1 : 0 < hi) (j : Nat) : lo ≤ l.getD j 0 ∧ l.getD j 0 < hi := by
  rw [List.getD_eq_getElem?_getD]
  cases hj : l[j]? with
  | none => exact ⟨h0, h1⟩
  | some k => exact h k (List.mem_of_getElem? hj)
theorem eqBool_bytes {b c : Array UInt8} {t u : Tok} {Q : Bool → Shared → Prop} (h : Q (b.toList == c.toList) s) : wpAny (model prog w) A (eqBool (.bytes b t) (.bytes c u)) Q E s := by
  unfold eqBool
  show wpAny _ _ (if (Value.bytes b t == Value.bytes c u) = true then _ else _) Q E s
  by_cases hab : (Value.bytes b t == Value.bytes c u) = true
  · rw [if_pos hab]
    have e : b = c := by have := eq_of_beq hab; injection this
    subst e
    exact wpAny_bind (wpAny_rule (wpAny_pure (by simpa using h)))
  · rw [if_neg hab]
    exact wpAny_bind (eq_bytes (wpAny_truthy_bool h))
/-- the order of two triples of octets and two numbers -/
def ordT (b : Array UInt8) (q k : Int) (c : Array UInt8) (q2 k2 : Int) : Ordering :=
  match ordB b c with
  | .eq => if q < q2 then .lt else if q2 < q then .gt else if k < k2 then .lt else if k2 < k then .gt else .eq
  | o => o
theorem off_of_lt {l : List (Addr × Obj)} {u d : Nat} (h : ∀ p ∈ l, p.1 < u) (hu : u ≤ d) : ∀ p ∈ l, p.1 ≠ d := fun p hp => Nat.ne_of_lt (Nat.lt_of_lt_of_le (h p hp) hu)
theorem ordB_eq {b c : Array UInt8} : (b.toList == c.toList) = (ordB b c == .eq) := (order_eq _ _).symm
abbrev tripleObj (b : Array UInt8) (t : Tok) (q : Int) (u : Tok) (k : Int) (v : Tok) : Obj := { cls := .type "tuple", data := .seq #[.bytes b t, .int q u, .int k v] }
theorem meets_tup_lt {x y : Addr} {b c : Array UInt8} {q k q2 k2 : Int} {t1 t2 t3 t4 t5 t6 : Tok} :
    Meets («tuple.__lt__» ⟨[.ref x, .ref y], []⟩) (fun _ R s => s.heap.get? x = some (tripleObj b t1 q t2 k t3) ∧ s.heap.get? y = some (tripleObj c t4 q2 t5 k2 t6) ∧ R (.ok (.ret (.bool (ordT b q k c q2 k2 == .lt)))) s) := by
  refine .of_wp fun prog w A R s hS => ?_
  obtain ⟨hx, hy, h⟩ := hS
  have tx : IsTup s.heap x #[.bytes b t1, .int q t2, .int k t3] := ⟨_, hx, rfl, 0, rfl⟩
  have ty : IsTup s.heap y #[.bytes c t4, .int q2 t5, .int k2 t6] := ⟨_, hy, rfl, 0, rfl⟩
  show wpAny _ _ (isInstance (.ref y) (.type "tuple") >>= fun r => _) _ _ s
  refine wpAny_bind (wpAny_isInstance ty.typeIs (by rw [isSubtype_type]; kernel_rfl : isSubtype (.type "tuple") (.type "tuple") = pure true) ?_)
  refine bm_if_false rfl ?_
  refine wpAny_bind (tupleItemsOf_ tx ?_)
  refine wpAny_bind (tupleItemsOf_ ty ?_)
  have e3 : (#[Value.bytes b t1, .int q t2, .int k t3].toList.zip #[Value.bytes c t4, .int q2 t5, .int k2 t6].toList) = [(.bytes b t1, .bytes c t4), (.int q t2, .int q2 t5), (.int k t3, .int k2 t6)] := rfl
  rw [e3]
  simp only [List.forIn_cons, List.forIn_nil]
  refine wpAny_bind (wpAny_bind (wpAny_bind (eqBool_bytes ?_)))
  rw [ordB_eq]
  cases hb : ordB b c with
  | lt | gt =>
    refine bm_if_true (by decide) (wpAny_bind (wpAny_rule (wpAny_bind (lt_bytes ?_))))
    refine wpAny_bind (wpAny_pure (wpAny_pure (wpAny_pure (wpAny_pure ⟨_, rfl, ?_⟩))))
    simp only [ordT, hb] at h
    rw [hb]; exact h
  | eq =>
    refine bm_if_false (by decide) (wpAny_pure (wpAny_bind (wpAny_bind (wpAny_eqBool_int ?_))))
    by_cases e1 : q = q2
    · subst e1
      refine bm_if_false (by simp) (wpAny_pure (wpAny_bind (wpAny_bind (wpAny_eqBool_int ?_))))
      by_cases e2 : k = k2
      · subst e2
        refine bm_if_false (by simp) (wpAny_pure (wpAny_pure (wpAny_pure ⟨_, rfl, ?_⟩)))
        simp only [ordT, hb, Int.lt_irrefl, if_false] at h
        exact h
      · refine bm_if_true (by simp [e2]) (wpAny_bind (wpAny_rule (wpAny_bind (wpAny_lt_int ?_))))
        refine wpAny_bind (wpAny_pure (wpAny_pure (wpAny_pure (wpAny_pure ⟨_, rfl, ?_⟩))))
        simp only [ordT, hb, Int.lt_irrefl, if_false] at h
        by_cases e3 : k < k2
        · simp only [e3, if_true] at h; simpa [e3] using h
        · have e4 : k2 < k := by omega
          simp only [e3, e4, if_true, if_false] at h; simpa [e3] using h
    · refine bm_if_true (by simp [e1]) (wpAny_bind (wpAny_rule (wpAny_bind (wpAny_lt_int ?_))))
      refine wpAny_bind (wpAny_pure (wpAny_pure (wpAny_pure (wpAny_pure ⟨_, rfl, ?_⟩))))
      simp only [ordT, hb] at h
      by_cases e3 : q < q2
      · simp only [e3, if_true] at h; simpa [e3] using h
      · have e4 : q2 < q := by omega
        simp only [e3, e4, if_true, if_false] at h; simpa [e3] using h
theorem lt_tup {h₀ : Heap} {L : Addr} {news : List (Addr × Obj)} {x y : Addr} {b c : Array UInt8} {q k q2 k2 : Int} {t1 t2 t3 t4 t5 t6 : Tok} {Q : Value → Shared → Prop} (N : News h₀ L s.heap news)
    (hx : (x, tripleObj b t1 q t2 k t3) ∈ news) (hy : (y, tripleObj c t4 q2 t5 k2 t6) ∈ news) (hu : A.units < cLine) (h : Q (.bool (ordT b q k c q2 k2 == .lt)) s) :
    wpAny (model prog w) A (compareOp .Lt (.ref x) (.ref y)) Q E s := by
  have tx : s.TypeIs (.ref x) "tuple" := ⟨_, N.get hx, rfl⟩
  have ty : s.TypeIs (.ref y) "tuple" := ⟨_, N.get hy, rfl⟩
  show wpAny _ _ (richCompare .Lt (.ref x) (.ref y)) _ _ _
  exact wpAny_richCompare_same_room tx ty F.slot_tuple_lt (call_meets F.slot_tuple_lt tx F.entry_tuple_lt (F.args_tuple_lt_2 _ _) meets_tup_lt ⟨N.get hx, N.get hy, (fun e => nomatch e), h⟩) hu
theorem ordT_swap (b c : Array UInt8) (q k q2 k2 : Int) (hs : ordB c b = (ordB b c).swap) : ordT c q2 k2 b q k = (ordT b q k c q2 k2).swap := by
  unfold ordT
  rw [hs]
  cases ordB b c <;> simp only [Ordering.swap]
  by_cases e1 : q < q2
  · have e2 : ¬ q2 < q := by omega
    simp [e1, e2]
  · by_cases e2 : q2 < q
    · simp [e1, e2]
    · by_cases e3 : k < k2
      · have e4 : ¬ k2 < k := by omega
        simp [e1, e2, e3, e4]
      · by_cases e4 : k2 < k
        · simp [e1, e2, e3, e4]
        · simp [e1, e2, e3, e4]
end

end Mine
end
section
open PySem PySem.W PySem.Calls PyProof.Rows
namespace Mine
theorem fmt_int {prog : Program} {w : World} {A : Around} {E : Value → Shared → Prop} {s : Shared} {a : Int} {t : Tok} {Q : Value → Shared → Prop} (hd : a.natAbs.log2 < 1920)
    (h : ∀ y : Str, y.length ≤ 1921 → Q (.str y (s.toks + 1)) { s with toks := s.toks + 1 + 1 }) : wpAny (model prog w) A (formatField (.int a t) Str.empty) Q E s :=
  wpAny_formatField_int hd (h _ (int_text_len_1921 hd))
theorem fit_y {c y : Str} (hy : y.length ≤ 1921) (hc : c.length ≤ 1000) : (c ++ y).length ≤ sizeLine := by
  rw [sizeLine_eq, Str.length_append]; omega
theorem fit_yl {c y d : Str} (hy : y.length ≤ 1921) (hc : c.length ≤ 1000) (hd : d.length ≤ 1000) : (c ++ y ++ d).length ≤ sizeLine := by
  rw [sizeLine_eq, Str.length_append, Str.length_append]; omega
section
variable {prog : Program} {w : World} {A₀ A : Around} {s : Shared} {base h₀ g₀ : Heap} {L a : Addr} {m : Str → Option Value} {cn : Str} {cs : Scope} {ccd : Value} {cl : List (Str × Addr)} {news : List (Addr × Obj)} {K : Frag} {p : Program} {loose : List Str} {mean : ExcName → Option Value} {mg mb : Str → Option Value}
    {R : Result → Shared → Prop} {name qual : Str} {params : Arguments} {body : List Stmt} {scope : Scope} {dV kV doc pm cdv ct oc : Value} {an od : Option Addr} {osl : Array (Option Value)} {f : Addr} {args : Args} {binds : List (Str × Value)}
/-- a helper that catches, called by a frame with cells that no other frame of a def stands above -/
theorem enterX (B : Below A₀ base [] h₀) (F : Fr h₀ L s.heap m) (N : News h₀ L s.heap news) (hA : A.frames = some [envX cn cs L a ccd cl]) (hck : cs.kind = .function) :
    ∃ oL es ep, (hideAll s.heap (news.map (·.1))).get? L = some oL ∧ oL.data = .dict es ep ∧ (∀ h', h'.get? L = some oL → Heap.Ns h' L m) ∧ (∀ (sl : Array (Option Value)) h', h'.get? L = some { oL with slots := sl } → Heap.Ns h' L m) ∧
      h₀.StaysIn (hideAll s.heap (news.map (·.1))) ∧ Below A base [envX cn cs L a ccd cl] (hideAll s.heap (news.map (·.1))) := by
  have nm : ∀ b o, h₀.get? b = some o → b ∉ news.map (·.1) := fun b o e q => by
    obtain ⟨p, hp, rfl⟩ := List.mem_map.mp q
    rw [(N p hp).2.2] at e; cases e
  have st : h₀.StaysIn (hideAll s.heap (news.map (·.1))) := fun b o e => hideAll_get _ (F.keep b o e) (nm b o e)
  have F' := F
  obtain ⟨oL, es, ep, hL, hLd, hLk, hLf⟩ := F.ns
  have nL : L ∉ news.map (·.1) := fun q => by
    obtain ⟨p, hp, e⟩ := List.mem_map.mp q
    exact (N p hp).2.1 e
  have hLg := hideAll_get (news.map (·.1)) hL nL
  have hnew : base.get? L = none := by
    cases hq : base.get? L with
    | none => rfl
    | some o => exact absurd (Nat.lt_of_lt_of_le (Heap.lt_size (B.stays L o hq)) F.above) (Nat.lt_irrefl _)
  have fr : s.heap.FunFrames base [envX cn cs L a ccd cl] := .cons (by show cs.kind ≠ .module; rw [hck]; decide) rfl F'.ns hnew trivial
  exact ⟨oL, es, ep, hLg, hLd, fun h' e => ⟨oL, es, ep, e, hLd, hLk, hLf⟩, fun sl h' e => ⟨_, es, ep, e, hLd, hLk, hLf⟩, st, ⟨hA, fun b o e => st b o (B.stays b o e), funFrames_hideAll fr fun env he b hb hf => by
    cases he with
    | head => exact nL ((Option.some.inj hf : L = b) ▸ hb)
    | tail _ he => cases he⟩⟩
theorem mem_one {env : Env} {b : Addr} (hf : env.frame = some L) (hm : b ∈ [env].filterMap (·.frame)) : b = L := by
  obtain ⟨e, he, h⟩ := List.mem_filterMap.mp hm
  rcases List.mem_cons.mp he with rfl | he
  · exact (Option.some.inj (hf.symm.trans h)).symm
  · cases he
theorem code_defS0X (B : Below A₀ base [] h₀) (F : Fr h₀ L s.heap m) (X₀ : K.In h₀) (N : News h₀ L s.heap news) (T : Top p loose mean mg mb h₀) (hA : A.frames = some [envX cn cs L a ccd cl])
    (ho : K.lookup f = some ⟨oc, od, .func (fnOf name qual params body scope dV kV doc pm an cdv ct), osl⟩) (hcd : codeIn K cdv qual = true) (hroom : A.depth < recursionLimit)
    (hbind : BindsTo s (fnOf name qual params body scope dV kV doc pm an cdv ct) args binds) (hloc : ∀ y ∈ binds, scope.names.lookup y.1 = some .local)
    (h : ∀ g L' h₁, Fr h₀ L g m → Fr g L' h₁ (fun y => binds.reverse.lookup y) → News g L' h₁ news → Below A base [envX cn cs L a ccd cl] g → K.In g → Top p loose mean mg mb g → KtsDicts ([envX cn cs L a ccd cl].filterMap (·.frame)) g →
      wpAny (model prog w) (A.deeper (envOf qual scope L' f cdv)) (execs body (envOf qual scope L' f cdv))
        (fun fl s' => LeaveS0 ([envX cn cs L a ccd cl].filterMap (·.frame)) h₀ L m g R (match fl with | .ret v => v | _ => .none) s')
        (fun e s' => wpAny (model prog w) (A.deeper (envOf qual scope L' f cdv)) (leaving (envOf qual scope L' f cdv) e) (fun _ s'' => R (.error e) s'') (fun e' s'' => R (.error e') s'') s')
        { s with heap := h₁, toks := s.toks + binds.length })
    (hck : cs.kind = .function) (hco : scope.isCoroutine = false) (hgen : scope.isGenerator = false) (hk : scope.kind = .function)
    (hcell : ∀ x ∈ scope.names, x.2 ≠ .cell) : codeAny (model prog w) A (.call (.ref f) args) R s := by
  have X := X₀.keeps F.keep
  refine codeAny_call_def (fd := fnOf name qual params body scope dV kV doc pm an cdv ct) (body := body) (binds := binds) hroom (X _ _ ho) rfl (T.nolimit.keeps F.keep) (codeRec_of X hcd) rfl hbind hcell hloc (fun h₁ hns hk₁ => ?_) hco hgen hk
  obtain ⟨oL, es, ep, hLg, hLd, hN, hNs, st, B₂⟩ := enterX B F N hA hck
  refine wpAny_mono (h _ s.heap.objs.size h₁ ⟨hN _ hLg, st, F.above⟩ ⟨hns, fun b o e => hk₁ b o (of_hideAll _ e), Nat.le_of_eq (hideAll_size _ _)⟩
    (fun p hp => ⟨hk₁ _ _ (N p hp).1, Nat.ne_of_lt (Heap.lt_size (N p hp).1), hideAll_none _ (List.mem_map_of_mem hp)⟩) B₂ (X₀.keeps st) (T.keeps st) (fun b hb => by
      cases mem_one rfl hb
      exact ⟨oL, es, ep, hLg, hLd⟩)) (fun fl s' hl => ?_) fun _ _ y => y
  obtain ⟨g', L', m', news', T', F', N', k⟩ := hl
  have nL₀ : h₀.get? L = none := kts_self F
  obtain ⟨sl, hs⟩ := T'.up hLg
  refine k ⟨hNs sl _ (F'.keep _ _ hs), fun b o e => F'.keep b o (T'.other b o (st b o e) (fun q => by
    cases mem_one rfl q
    rw [nL₀] at e
    cases e)), F.above⟩ fun p hp => ⟨(N' p hp).1, fun q => ?_, ?_⟩
  · have := (N' p hp).2.2; rw [q, hs] at this; cases this
  · cases q : h₀.get? p.1 with
    | none => rfl
    | some o =>
      obtain ⟨sl', hs'⟩ := T'.up (st _ _ q)
      have := (N' p hp).2.2
      rw [hs'] at this
      cases this
end

end Mine
end
section
open PySem PySem.W PySem.Calls PyProof.Rows PySem.Spec
namespace Mine
section
variable {prog : Program} {w : World} {A : Around} {E : Value → Shared → Prop} {s : Shared} {env : Env} {x : Str} {body : List Stmt} {Q : Flow → Shared → Prop}
/-- what a turn leaves: its ground may be another -/
def PostG (L : Addr) (s₁ : Shared) (I : Addr) (it : Obj) (rest : Heap → (Str → Option Value) → List (Addr × Obj) → Prop) (Q : Flow → Shared → Prop) (f : Flow) (s₂ : Shared) : Prop :=
  match f with
  | .ret v => Q (.ret v) s₂
  | .brk => Q .next s₂
  | _ => ∃ g' h' tk m' news', s₂ = { s₁ with heap := h', toks := tk } ∧ Fr g' L h' m' ∧ News g' L h' ((I, it) :: news') ∧ (∀ p ∈ news', p.1 ≠ I) ∧ rest g' m' news'
def RestG (prog : Program) (w : World) (A : Around) (E : Value → Shared → Prop) (env : Env) (x : Str) (body : List Stmt) (Q : Flow → Shared → Prop) (s : Shared) (I : Addr) (a : Int) (n : Nat) : Nat → Nat → Heap → (Str → Option Value) → List (Addr × Obj) → Prop
  | 0, _, g, m, news => ∀ h tk, Fr g env.locals h m → News g env.locals h news → Q .next { s with heap := h, toks := tk }
  | k + 1, i, g, m, news => ∀ t h tk, Fr g env.locals h (fun y => if y = x then some (.int (a + (i : Int)) t) else m y) →
      News g env.locals h ((I, itR (a + ((i + 1 : Nat) : Int)) ((n : Int) - ((i + 1 : Nat) : Int))) :: news) →
      wpAny (model prog w) A (execs body env) (PostG env.locals { s with heap := h, toks := tk } I (itR (a + ((i + 1 : Nat) : Int)) ((n : Int) - ((i + 1 : Nat) : Int))) (RestG prog w A E env x body Q s I a n k (i + 1)) Q) E { s with heap := h, toks := tk }
theorem PostG.ofUnr {L I : Addr} {it : Obj} {rest : Heap → (Str → Option Value) → List (Addr × Obj) → Prop} {s₁ s₂ : Shared} {g : Heap} (h : UnrEnd g L s₁ I it (rest g) s₂) : PostG L s₁ I it rest Q .next s₂ := by
  obtain ⟨h', tk, m', news', e, F, N, o, r⟩ := h
  exact ⟨g, h', tk, m', news', e, F, N, o, r⟩
theorem PostG.headN {L I : Addr} {it : Obj} {rest : Heap → (Str → Option Value) → List (Addr × Obj) → Prop} {s₁ : Shared} {h' g : Heap} {tk : Nat} {m' : Str → Option Value} {news' : List (Addr × Obj)} (F : Fr g L h' m') (N : News g L h' ((I, it) :: news'))
    (off : ∀ p ∈ news', @LT.lt Nat _ p.1 I) (r : rest g m' news') : PostG L s₁ I it rest Q .next { s₁ with heap := h', toks := tk } := ⟨g, h', tk, m', news', rfl, F, N, fun p hp => Nat.ne_of_lt (off p hp), r⟩
theorem RestG.zero {I : Addr} {a : Int} {n i : Nat} {g : Heap} {m : Str → Option Value} {news : List (Addr × Obj)} (h : ∀ h tk, Fr g env.locals h m → News g env.locals h news → Q .next { s with heap := h, toks := tk }) :
    RestG prog w A E env x body Q s I a n 0 i g m news := h
theorem RestG.succ {I : Addr} {a : Int} {n k i : Nat} {g : Heap} {m : Str → Option Value} {news : List (Addr × Obj)}
    (h : ∀ t h tk, Fr g env.locals h (fun y => if y = x then some (.int (a + (i : Int)) t) else m y) → News g env.locals h ((I, itR (a + ((i + 1 : Nat) : Int)) ((n : Int) - ((i + 1 : Nat) : Int))) :: news) →
      wpAny (model prog w) A (execs body env) (PostG env.locals { s with heap := h, toks := tk } I (itR (a + ((i + 1 : Nat) : Int)) ((n : Int) - ((i + 1 : Nat) : Int))) (RestG prog w A E env x body Q s I a n k (i + 1)) Q) E { s with heap := h, toks := tk }) :
    RestG prog w A E env x body Q s I a n (k + 1) i g m news := h
theorem PostG.next {L I : Addr} {it : Obj} {rest : Heap → (Str → Option Value) → List (Addr × Obj) → Prop} {s₁ : Shared} {h' g : Heap} {tk : Nat} {m' : Str → Option Value} {all : List (Addr × Obj)} (F : Fr g L h' m') (N : News g L h' all) (news' : List (Addr × Obj))
    (sub : ∀ p ∈ (I, it) :: news', p ∈ all) (off : ∀ p ∈ news', p.1 ≠ I) (r : rest g m' news') : PostG L s₁ I it rest Q .next { s₁ with heap := h', toks := tk } := ⟨g, h', tk, m', news', rfl, F, fun p hp => N p (sub p hp), off, r⟩
theorem RestG.facts {I : Addr} {a : Int} {n : Nat} {news : List (Addr × Obj)} {P : Nat → Heap → (Str → Option Value) → Prop}
    (turn : ∀ i g m t h tk, i < n → P i g m → Fr g env.locals h (fun y => if y = x then some (.int (a + (i : Int)) t) else m y) → News g env.locals h ((I, itR (a + ((i + 1 : Nat) : Int)) ((n : Int) - ((i + 1 : Nat) : Int))) :: news) →
      wpAny (model prog w) A (execs body env) (PostG env.locals { s with heap := h, toks := tk } I (itR (a + ((i + 1 : Nat) : Int)) ((n : Int) - ((i + 1 : Nat) : Int))) (fun g' m' news' => news' = news ∧ P (i + 1) g' m') Q) E { s with heap := h, toks := tk })
    (done : ∀ g m h tk, P n g m → Fr g env.locals h m → News g env.locals h news → Q .next { s with heap := h, toks := tk }) :
    ∀ k i g m, i + k = n → P i g m → RestG prog w A E env x body Q s I a n k i g m news := by
  intro k
  induction k with
  | zero => intro i g m e p; obtain rfl : i = n := e; exact fun h tk F N => done g m h tk p F N
  | succ k ih =>
    intro i g m e p
    refine RestG.succ fun t h tk F N => wpAny_mono (turn i g m t h tk (by omega) p F N) (fun f s₂ q => ?_) fun _ _ e => e
    cases f with
    | ret v => exact q
    | brk => exact q
    | next => obtain ⟨g', h', tk', m', n1, e', F', N', o, hn, p'⟩ := q; exact ⟨g', h', tk', m', n1, e', F', N', o, hn ▸ ih (i + 1) g' m' (by omega) p'⟩
    | cont => obtain ⟨g', h', tk', m', n1, e', F', N', o, hn, p'⟩ := q; exact ⟨g', h', tk', m', n1, e', F', N', o, hn ▸ ih (i + 1) g' m' (by omega) p'⟩
theorem forLoop_G {g₀ : Heap} {I : Addr} {a : Int} {n : Nat} {m : Str → Option Value} {news : List (Addr × Obj)} {px : Pos} (hE : PassesOwn (model prog w) A env E)
    (hh : A.handled = none) (hx : env.kindOf x = some .local) (hp : (env.scope.kind == .class || (env.scope.kind == .module && env.locals != env.globals)) = false)
    (hst : s.heap.get? I = some (itR (a + ((0 : Nat) : Int)) ((n : Int) - ((0 : Nat) : Int)))) (F : Fr g₀ env.locals s.heap m) (N : News g₀ env.locals s.heap news) (off : ∀ p ∈ news, p.1 ≠ I) (hI : g₀.get? I = none) (hL : env.locals ≠ I)
    (rest : RestG prog w A E env x body Q s I a n n 0 g₀ m news) :
    codeAny (model prog w) A (.forLoop (.Name x px) (.ref I) body [] env) (fun r s' => match r with | .ok f => Q f s' | .error e => cameBackBy (model prog w) A env E e s') s := by
  have W : Walks prog w A I [I] [I] n (fun i v => ∃ t, v = .int (a + i * 1) t) (fun i h => IsRangeIter h I (a + (i : Nat) * 1) ((n : Int) - (i : Nat)) 1) := Walks.range hh I a 1 n
  have hLw : env.locals ∉ [I] := fun q => hL (List.mem_singleton.mp q)
  have stof : ∀ (h : Heap) (i : Nat), h.get? I = some (itR (a + (i : Int)) ((n : Int) - (i : Int))) → IsRangeIter h I (a + (i : Nat) * 1) ((n : Int) - (i : Nat)) 1 := fun h i e => by
    show h.get? I = _
    rw [Int.mul_one]; exact e
  have ofst : ∀ (h : Heap) (i : Nat), IsRangeIter h I (a + (i : Nat) * 1) ((n : Int) - (i : Nat)) 1 → h.get? I = some (itR (a + (i : Int)) ((n : Int) - (i : Int))) := fun h i e => by
    have q : h.get? I = _ := e
    rw [Int.mul_one] at q; exact q
  refine codeAny_forLoop
    (fun k s' => ∃ (g : Heap) (h' : Heap) (tk : Nat) (m' : Str → Option Value) (news' : List (Addr × Obj)) (i : Nat), s' = { s with heap := h', toks := tk } ∧ h'.get? I = some (itR (a + (i : Int)) ((n : Int) - (i : Int))) ∧ Fr g env.locals h' m' ∧ News g env.locals h' news' ∧ (∀ p ∈ news', p.1 ≠ I) ∧ g.get? I = none ∧ RestG prog w A E env x body Q s I a n (n - i) i g m' news' ∧ i ≤ n ∧ k = n + 1 - i) ?_ (n + 1)
    ⟨g₀, s.heap, s.toks, m, news, 0, rfl, hst, F, N, off, hI, rest, Nat.zero_le _, rfl⟩
  rintro k s' ⟨g, h', tk, m', news', i, rfl, hst', F', N', off', hgI, hJ, hi, rfl⟩
  have old : ∀ b o, g.get? b = some o → b ∉ [I] := fun b o e q => by rw [List.mem_singleton.mp q, hgI] at e; cases e
  have next : ∀ h₁ : Heap, (∀ b o, b ∉ [I] → h'.get? b = some o → h₁.get? b = some o) → Fr g env.locals h₁ m' ∧ News g env.locals h₁ news' := fun h₁ hk₁ =>
    ⟨⟨F'.ns.at' fun o e => hk₁ _ o hLw e, fun b o e => hk₁ b o (old b o e) (F'.keep b o e), F'.above⟩, fun p hp => ⟨hk₁ _ _ (fun q => off' p hp (List.mem_singleton.mp q)) (N' p hp).1, (N' p hp).2⟩⟩
  by_cases hlt : i < n
  · refine W.item i _ _ _ hlt (stof _ _ hst') fun v h₁ tk₁ hP hst₁ hk₁ => ?_
    obtain ⟨t, rfl⟩ := hP
    obtain ⟨F₁, N₁⟩ := next h₁ hk₁
    refine wpAny_assign_Name (wpAny_storeName_local hx F₁.ns (fun h₂ hn₂ hs₂ => ?_) hp)
    have F₂ := F₁.set hn₂ hs₂
    have hI₂ : h₂.get? I = some (itR (a + ((i + 1 : Nat) : Int)) ((n : Int) - ((i + 1 : Nat) : Int))) := (hs₂.2 I fun q => hL q.symm).trans (ofst _ _ hst₁)
    have hkk : n - i = (n - (i + 1)) + 1 := by omega
    rw [hkk] at hJ
    have F₃ : Fr g env.locals h₂ (fun y => if y = x then some (.int (a + (i : Int)) t) else m' y) := by
      have q := F₂
      rw [Int.mul_one] at q
      exact q
    have N₂ : News g env.locals h₂ ((I, itR (a + ((i + 1 : Nat) : Int)) ((n : Int) - ((i + 1 : Nat) : Int))) :: news') := fun p hp => by
      rcases List.mem_cons.mp hp with rfl | hp
      · exact ⟨hI₂, fun q => hL q.symm, hgI⟩
      · exact (N₁.set hs₂) p hp
    refine wpAny_mono (wpAny_passesOwn hE (hJ t h₂ _ F₃ N₂)) (fun f s₃ h₃ => ?_) fun _ _ e => e
    have fin : (∃ g' h' tk m' news', s₃ = { s with heap := h', toks := tk } ∧ Fr g' env.locals h' m' ∧ News g' env.locals h' ((I, itR (a + ((i + 1 : Nat) : Int)) ((n : Int) - ((i + 1 : Nat) : Int))) :: news') ∧ (∀ p ∈ news', p.1 ≠ I) ∧ RestG prog w A E env x body Q s I a n (n - (i + 1)) (i + 1) g' m' news') →
        ∃ k, k < n + 1 - i ∧ ∃ (g : Heap) (h' : Heap) (tk : Nat) (m' : Str → Option Value) (news' : List (Addr × Obj)) (i : Nat), s₃ = { s with heap := h', toks := tk } ∧ h'.get? I = some (itR (a + (i : Int)) ((n : Int) - (i : Int))) ∧ Fr g env.locals h' m' ∧ News g env.locals h' news' ∧ (∀ p ∈ news', p.1 ≠ I) ∧ g.get? I = none ∧ RestG prog w A E env x body Q s I a n (n - i) i g m' news' ∧ i ≤ n ∧ k = n + 1 - i := by
      rintro ⟨g', h₃', tk₃, m₃, news₃, rfl, F₄, N₄, o₄, r₄⟩
      exact ⟨n + 1 - (i + 1), by omega, g', h₃', tk₃, m₃, news₃, i + 1, rfl, (N₄ _ (.head _)).1, F₄, fun p hp => N₄ p (.tail _ hp), o₄, (N₄ _ (.head _)).2.2, r₄, hlt, rfl⟩
    cases f with
    | ret v => exact h₃
    | brk => exact h₃
    | cont => exact fin h₃
    | next => exact fin h₃
  · have hin : i = n := by omega
    subst hin
    refine W.done _ _ _ (stof _ _ hst') fun h₁ tk₁ hk₁ => wpAny_execs_nil ?_
    obtain ⟨F₁, N₁⟩ := next h₁ hk₁
    rw [Nat.sub_self] at hJ
    exact hJ h₁ tk₁ F₁ N₁
def LoopG (prog : Program) (w : World) (A : Around) (env : Env) (x : Str) (body : List Stmt) (Q : Flow → Shared → Prop) (E : Value → Shared → Prop) (it : Value) (s₂ : Shared) : Prop :=
  ∃ (g₀ : Heap) (I : Addr) (a : Int) (n : Nat) (m : Str → Option Value) (news : List (Addr × Obj)), it = .ref I ∧ A.handled = none ∧ s₂.heap.get? I = some (itR (a + ((0 : Nat) : Int)) ((n : Int) - ((0 : Nat) : Int))) ∧ Fr g₀ env.locals s₂.heap m ∧ News g₀ env.locals s₂.heap news ∧
    (∀ p ∈ news, p.1 ≠ I) ∧ g₀.get? I = none ∧ env.locals ≠ I ∧ RestG prog w A E env x body Q s₂ I a n n 0 g₀ m news
/-- a written range, its ground free in every turn -/
theorem For_G {px pos : Pos} {iter : Expr} (hx : env.kindOf x = some .local) (hp : (env.scope.kind == .class || (env.scope.kind == .module && env.locals != env.globals)) = false)
    (h : wpAny (model prog w) A (eval iter env) (fun xv s₁ => wpAny (model prog w) A (pyIter xv) (fun it s₂ => LoopG prog w A env x body Q E it s₂) E s₁) E s)
    (hs : ∀ x, foldedSetIterable iter env x = pure x := by intro _; rfl)
    (hE : PassesOwn (model prog w) A env E := by passes_own) :
    wpAny (model prog w) A (exec (.For (.Name x px) iter body [] pos) env) Q E s := by
  refine wpAny_For (wpAny_mono h (fun xv s₁ h₁ => wpAny_mono h₁ (fun it s₂ h₂ => ?_) fun _ _ e => e) fun _ _ e => e) hs
  obtain ⟨g₀, I, a, n, m, news, rfl, hh, hst, F, N, off, hI, hL, r⟩ := h₂
  exact forLoop_G hE hh hx hp hst F N off hI hL r
theorem iter_G {r : Addr} {a₀ b₀ : Int} {t₀ u₀ v₀ : Tok} {n : Nat} {m : Str → Option Value} {g₀ : Heap} {news : List (Addr × Obj)}
    (hh : A.handled = none) (hr : IsRange s.heap r a₀ b₀ 1 t₀ u₀ v₀) (hsmall : Builtin.Range.small a₀ b₀ 1 = true) (hn : Builtin.Range.rangeSize a₀ b₀ 1 = (n : Int)) (F : Fr g₀ env.locals s.heap m) (N : News g₀ env.locals s.heap news)
    (rest : ∀ I : Addr, (∀ p ∈ news, @LT.lt Nat _ p.1 I) → ∀ s₂ : Shared, (∃ h', s₂ = { s with heap := h' }) → RestG prog w A E env x body Q s₂ I a₀ n n 0 g₀ m news) :
    wpAny (model prog w) A (pyIter (.ref r)) (fun it s₂ => LoopG prog w A env x body Q E it s₂) E s := by
  refine wpAny_pyIter_range hr hsmall ?_
  refine ⟨g₀, s.heap.objs.size, a₀, n, m, news, rfl, hh, ?_, F.push _, fun p hp => ⟨Heap.get?_push_of_some _ (N p hp).1, (N p hp).2⟩, fun p hp => Nat.ne_of_lt (Heap.lt_size (N p hp).1), next_is_new F, fun q => absurd F.ns.lt (q ▸ Nat.lt_irrefl _), rest _ (fun p hp => Heap.lt_size (N p hp).1) _ ⟨_, rfl⟩⟩
  rw [hn]
  simpa [itR] using Heap.get?_push_size s.heap (o := { cls := .type "range_iterator", data := .fields #[rawInt a₀, rawInt (n : Int), rawInt 1] }) rfl
end

end Mine
end
section
open PySem PySem.W PySem.Calls PyProof.Rows PySem.Spec
namespace Mine
section
variable {prog : Program} {w : World} {A : Around} {E : Value → Shared → Prop} {s : Shared} {env : Env} {x : Str} {body : List Stmt} {Q : Flow → Shared → Prop}
theorem PostG.at {L I : Addr} {it : Obj} {rest : Heap → (Str → Option Value) → List (Addr × Obj) → Prop} {s₁ : Shared} {h' g : Heap} {tk : Nat} {m' : Str → Option Value} {news' : List (Addr × Obj)} (F : Fr g L h' m') (N : News g L h' ((I, it) :: news'))
    (off : ∀ p ∈ news', p.1 ≠ I) (r : rest g m' news') : PostG L s₁ I it rest Q .next { s₁ with heap := h', toks := tk } := ⟨g, h', tk, m', news', rfl, F, N, off, r⟩
/-- the turns of a written range by an invariant of the frame's names and the ledger -/
theorem RestG.inv {g : Heap} {I : Addr} {a : Int} {n : Nat} {P : Nat → (Str → Option Value) → List (Addr × Obj) → Prop}
    (turn : ∀ i m news t h tk, i < n → P i m news → (∀ p ∈ news, p.1 ≠ I) → Fr g env.locals h (fun y => if y = x then some (.int (a + (i : Int)) t) else m y) → News g env.locals h ((I, itR (a + ((i + 1 : Nat) : Int)) ((n : Int) - ((i + 1 : Nat) : Int))) :: news) →
      wpAny (model prog w) A (execs body env) (PostG env.locals { s with heap := h, toks := tk } I (itR (a + ((i + 1 : Nat) : Int)) ((n : Int) - ((i + 1 : Nat) : Int))) (fun g' m' news' => g' = g ∧ P (i + 1) m' news') Q) E { s with heap := h, toks := tk })
    (done : ∀ m news h tk, P n m news → Fr g env.locals h m → News g env.locals h news → Q .next { s with heap := h, toks := tk }) :
    ∀ k i m news, i + k = n → P i m news → (∀ p ∈ news, p.1 ≠ I) → RestG prog w A E env x body Q s I a n k i g m news := by
  intro k
  induction k with
  | zero => intro i m news e p _; obtain rfl : i = n := e; exact fun h tk F N => done m news h tk p F N
  | succ k ih =>
    intro i m news e p o
    refine RestG.succ fun t h tk F N => wpAny_mono (turn i m news t h tk (by omega) p o F N) (fun f s₂ q => ?_) fun _ _ e => e
    cases f with
    | ret v => exact q
    | brk => exact q
    | next => obtain ⟨g', h', tk', m', n1, e', F', N', o, hg, p'⟩ := q; subst hg; exact ⟨g', h', tk', m', n1, e', F', N', o, ih (i + 1) m' n1 (by omega) p' o⟩
    | cont => obtain ⟨g', h', tk', m', n1, e', F', N', o, hg, p'⟩ := q; subst hg; exact ⟨g', h', tk', m', n1, e', F', N', o, ih (i + 1) m' n1 (by omega) p' o⟩
end
/-- a list of references to triples that stand in the ledger -/
def HeadsIn (l : List (Addr × Obj)) : List Value → List (Array UInt8 × Int × Int) → Prop
  | [], [] => True
  | v :: vs, h :: hs => (∃ (r : Addr) (t1 t2 t3 : Tok), v = .ref r ∧ (r, tripleObj h.1 t1 (0 - h.2.1) t2 (0 - h.2.2) t3) ∈ l) ∧ HeadsIn l vs hs
  | _, _ => False
theorem HeadsIn.sub {l l' : List (Addr × Obj)} (h : ∀ p ∈ l, p ∈ l') : ∀ {vs hs}, HeadsIn l vs hs → HeadsIn l' vs hs
  | [], [], _ => trivial
  | _ :: _, _ :: _, ⟨⟨r, t1, t2, t3, e, m⟩, x⟩ => ⟨⟨r, t1, t2, t3, e, h _ m⟩, x.sub h⟩
theorem HeadsIn.snoc {l : List (Addr × Obj)} {v : Value} {h : Array UInt8 × Int × Int} (x : ∃ (r : Addr) (t1 t2 t3 : Tok), v = .ref r ∧ (r, tripleObj h.1 t1 (0 - h.2.1) t2 (0 - h.2.2) t3) ∈ l) : ∀ {vs hs}, HeadsIn l vs hs → HeadsIn l (vs ++ [v]) (hs ++ [h])
  | [], [], _ => ⟨x, trivial⟩
  | _ :: _, _ :: _, ⟨y, z⟩ => ⟨y, HeadsIn.snoc x z⟩
theorem HeadsIn.length {l : List (Addr × Obj)} : ∀ {vs hs}, HeadsIn l vs hs → vs.length = hs.length
  | [], [], _ => rfl
  | _ :: _, _ :: _, ⟨_, x⟩ => congrArg (· + 1) x.length
def HeadOk (h : Array UInt8 × Int × Int) : Prop := (KBw.bInts h.1).length ≤ 5 ∧ 0 ≤ h.2.1 ∧ h.2.1 ≤ 72057594037927935 ∧ 0 ≤ h.2.2 ∧ h.2.2 ≤ 1

end Mine
end
section
open PySem PySem.W PySem.Calls PyProof.Rows PySem.Spec
namespace Mine
section
variable {prog : Program} {w : World} {A : Around} {E : Value → Shared → Prop} {s : Shared} {env : Env} {h₀ : Heap} {target : Expr} {body : List Stmt} {Q : Flow → Shared → Prop}
/-- the turns over a list of the ledger by an invariant of the frame's names and the ledger -/
theorem items_inv {I ax : Addr} {lo : Obj} {vs : List Value} {P : Nat → (Str → Option Value) → List (Addr × Obj) → Prop}
    (turn : ∀ i v m news h tk o, vs[i]? = some v → P i m news → Fr h₀ env.locals h m → o.cls = .type "list_iterator" → News h₀ env.locals h ((I, o) :: news) →
      wpAny (model prog w) A (assign target env v) (fun _ s₂ => wpAny (model prog w) A (execs body env) (UnrPostW h₀ env.locals { s with heap := h, toks := tk } [(I, o)] (fun m' n' => (ax, lo) ∈ n' ∧ P (i + 1) m' n') Q) E s₂) E { s with heap := h, toks := tk })
    (done : ∀ m news h tk, P vs.length m news → Fr h₀ env.locals h m → News h₀ env.locals h news → Q .next { s with heap := h, toks := tk }) :
    ∀ xs i m news, i ≤ vs.length → vs.drop i = xs → P i m news → ItemsRest prog w A E h₀ env target body Q s [(I, "list_iterator")] [(ax, lo)] (xs.map .val) m news := by
  intro xs
  induction xs with
  | nil =>
    intro i m news hi e p
    have hl := congrArg List.length e
    rw [List.length_drop, List.length_nil] at hl
    obtain rfl : i = vs.length := by omega
    exact ItemsRest.zero fun h tk F N => done m news h tk p F N
  | cons v xs ih =>
    intro i m news hi e p
    have hl := congrArg List.length e
    rw [List.length_drop, List.length_cons] at hl
    have hv : vs[i]? = some v := by
      have := congrArg (·[0]?) e
      simpa using this
    have e' : vs.drop (i + 1) = xs := by
      have := congrArg (List.drop 1) e
      simpa [List.drop_drop] using this
    refine ItemsRest.val fun h tk F => AllObj.cons fun o hc => AllObj.nil fun N => ?_
    refine wpAny_mono (turn i v m news h tk o hv p F hc N) (fun _ s₂ q => wpAny_mono q (fun f s₃ r => ?_) fun _ _ x => x) fun _ _ x => x
    cases f with
    | ret v => exact r
    | brk => exact r
    | next => obtain ⟨h', tk', m', n', e1, F', N', o', k, p'⟩ := r; exact ⟨h', tk', m', n', e1, F', N', o', ⟨k, trivial⟩, ih (i + 1) m' n' (by omega) e' p'⟩
    | cont => obtain ⟨h', tk', m', n', e1, F', N', o', k, p'⟩ := r; exact ⟨h', tk', m', n', e1, F', N', o', ⟨k, trivial⟩, ih (i + 1) m' n' (by omega) e' p'⟩
end
theorem HeadsIn.get {l : List (Addr × Obj)} : ∀ {vs hs}, HeadsIn l vs hs → ∀ {i : Nat} {v : Value}, vs[i]? = some v → ∃ h, hs[i]? = some h ∧ ∃ (r : Addr) (t1 t2 t3 : Tok), v = .ref r ∧ (r, tripleObj h.1 t1 (0 - h.2.1) t2 (0 - h.2.2) t3) ∈ l
  | [], [], _, i, v, e => by cases i <;> cases e
  | _ :: _, h :: _, ⟨x, y⟩, 0, v, e => by cases e; exact ⟨h, rfl, x⟩
  | _ :: _, _ :: _, ⟨_, y⟩, i + 1, v, e => y.get (i := i) e

end Mine
end
section
open PySem PySem.W PySem.Calls PyProof.Rows
namespace Mine
section
variable {prog : Program} {w : World} {A : Around} {E : Value → Shared → Prop} {s : Shared}
theorem meets_tup_ne {x y : Addr} {b : Array UInt8} {q k : Int} {t1 t2 t3 t4 t5 t6 : Tok} :
    Meets (Builtin.«tuple.__ne__» ⟨[.ref x, .ref y], []⟩) (fun _ R s => s.heap.get? x = some (tripleObj b t1 q t2 k t3) ∧ s.heap.get? y = some (tripleObj b t4 q t5 k t6) ∧ R (.ok (.ret (.bool false))) s) := by
  refine .of_wp fun prog w A R s hS => ?_
  obtain ⟨hx, hy, h⟩ := hS
  have tx : IsTup s.heap x #[.bytes b t1, .int q t2, .int k t3] := ⟨_, hx, rfl, 0, rfl⟩
  have ty : IsTup s.heap y #[.bytes b t4, .int q t5, .int k t6] := ⟨_, hy, rfl, 0, rfl⟩
  show wpAny _ _ (isInstance (.ref y) (.type "tuple") >>= fun r => _) _ _ s
  refine wpAny_bind (wpAny_isInstance ty.typeIs (by rw [isSubtype_type]; kernel_rfl : isSubtype (.type "tuple") (.type "tuple") = pure true) ?_)
  refine bm_if_false rfl ?_
  refine wpAny_bind (tupleItemsOf_ tx ?_)
  refine wpAny_bind (tupleItemsOf_ ty ?_)
  have e3 : (#[Value.bytes b t1, .int q t2, .int k t3].toList.zip #[Value.bytes b t4, .int q t5, .int k t6].toList) = [(.bytes b t1, .bytes b t4), (.int q t2, .int q t5), (.int k t3, .int k t6)] := rfl
  rw [e3]
  simp only [List.forIn_cons, List.forIn_nil]
  refine wpAny_bind (wpAny_bind (wpAny_bind (eqBool_bytes ?_)))
  refine bm_if_false (by simp) (wpAny_pure (wpAny_bind (wpAny_bind (wpAny_eqBool_int ?_))))
  refine bm_if_false (by simp) (wpAny_pure (wpAny_bind (wpAny_bind (wpAny_eqBool_int ?_))))
  refine bm_if_false (by simp) (wpAny_pure (wpAny_pure (wpAny_pure ⟨_, rfl, ?_⟩)))
  exact h
theorem ne_tup {h₀ : Heap} {L : Addr} {news : List (Addr × Obj)} {x y : Addr} {b : Array UInt8} {q k q2 k2 : Int} {t1 t2 t3 t4 t5 t6 : Tok} {Q : Value → Shared → Prop} (N : News h₀ L s.heap news)
    (hx : (x, tripleObj b t1 q t2 k t3) ∈ news) (hy : (y, tripleObj b t4 q2 t5 k2 t6) ∈ news) (hq : q = q2) (hk : k = k2) (hu : A.units < cLine) (h : Q (.bool false) s) :
    wpAny (model prog w) A (compareOp .NotEq (.ref x) (.ref y)) Q E s := by
  subst hq hk
  have tx : s.TypeIs (.ref x) "tuple" := ⟨_, N.get hx, rfl⟩
  have ty : s.TypeIs (.ref y) "tuple" := ⟨_, N.get hy, rfl⟩
  show wpAny _ _ (richCompare .NotEq (.ref x) (.ref y)) _ _ _
  exact wpAny_richCompare_same_room tx ty F.slot_tuple_ne (call_meets F.slot_tuple_ne tx F.entry_tuple_ne (F.args_tuple_ne_2 _ _) meets_tup_ne ⟨N.get hx, N.get hy, (fun e => nomatch e), h⟩) hu
theorem item_at {h₀ : Heap} {L D : Addr} {news : List (Addr × Obj)} {vs : List Value} {n i : Nat} {x : Int} {u : Tok} {v : Value} {value slice : PySem.Expr} {Q : Value → Shared → Prop} (N : News h₀ L s.heap news) (hm : (D, listOf vs.toArray n) ∈ news) (hx : x = (i : Int)) (hv : vs[i]? = some v) (hfit : i < 1000) (h : Q v s)
    (hs : subscripted slice false (.ref D) (.int x u) = operate [.ref D, .int x u] (getItem (.ref D) (.int x u))) :
    wpAny (model prog w) A (subscriptTail value slice (.ref D) (.int x u)) Q E s := by
  have hl := PySem.IsL.isList (n := n) (N _ hm).1
  exact tail_any hl.typeIs slot_list_getitem.lookup (getItem_listL hl (by omega) (by omega) (by rw [hx]; exact hv) h) hs
theorem item_trip {h₀ : Heap} {L r : Addr} {news : List (Addr × Obj)} {b : Array UInt8} {q k x : Int} {t1 t2 t3 u : Tok} {j : Nat} {v : Value} {value slice : PySem.Expr} {Q : Value → Shared → Prop} (N : News h₀ L s.heap news) (hm : (r, tripleObj b t1 q t2 k t3) ∈ news)
    (h0 : 0 ≤ x) (h3 : x < 3) (hj : seqIndex? x 3 = some j) (hv : [Value.bytes b t1, .int q t2, .int k t3][j]? = some v) (h : Q v s)
    (hs : subscripted slice false (.ref r) (.int x u) = operate [.ref r, .int x u] (getItem (.ref r) (.int x u))) :
    wpAny (model prog w) A (subscriptTail value slice (.ref r) (.int x u)) Q E s :=
  item_tupleT (l := [Value.bytes b t1, .int q t2, .int k t3]) ⟨_, N.get hm, rfl, 0, rfl⟩ (by omega) (by omega) hj hv h hs
theorem len_at {h₀ : Heap} {L D : Addr} {news : List (Addr × Obj)} {vs : List Value} {n : Nat} {Q : Value → Shared → Prop} (N : News h₀ L s.heap news) (hm : (D, listOf vs.toArray n) ∈ news) (hf : vs.length < 1000) (h : ∀ t k, Q (.int (vs.length : Int) t) { s with toks := k }) :
    wpAny (model prog w) A (call (.builtin "len") [.ref D]) Q E s :=
  call_len_list (PySem.IsL.isList (n := n) (N _ hm).1) (by rw [List.size_toArray]; omega) (by rw [List.size_toArray]; exact h _ _)
end

end Mine
end
section
open PySem PySem.W PySem.Calls PyProof.Rows
namespace Mine
local macro_rules | `(tactic| walk_at $s:str) => `(tactic| k_extra $(Lean.Syntax.mkStrLit ("m " ++ s.getString)))
local macro_rules | `(tactic| k_mem) => `(tactic| k_extra "m k_mem")
local macro_rules | `(tactic| k_all) => `(tactic| k_extra "m k_all")
local macro_rules | `(tactic| boot_fact) => `(tactic| k_extra "m boot_fact")
theorem walk_1 : True := by
  w_top off
  trivial
/-- the value of octets, the lowest first -/
def leV : List Int → Int
  | [] => 0
  | d :: r => d + 256 * leV r
theorem drop1 {h₀ h : Heap} {L : Addr} {p : Addr × Obj} {news : List (Addr × Obj)} (N : News h₀ L h (p :: news)) : News h₀ L h news := fun q hq => N q (.tail _ hq)
theorem cut_eight {x : List Int} {ks : List Int} (h : x = List.take (clipAt ks.length ((ks.length : Int) - 8)) ks) (hl : 8 ≤ ks.length) : x = ks.take (ks.length - 8) := by
  rw [h]; congr 1; exact clip_less (k := 8) hl
theorem lines_2 : True := by
  k_with_none
  k_with "m call type:bytes" => (k_here; (with_reducible show wpAny _ _ (call (Value.type _) [Value.bytes _ _]) _ _ _); refine bytes_bytes ?_)
  k_with "m call type:bytes" => (k_here; (with_reducible show wpAny _ _ (call (Value.type _) [Value.ref _]) _ _ _); k_dflt (refine' bytes_ba_K ?z9N ?z9m ?z9k ?z9z ?_; (case z9N => k_asm); (case z9m => k_mem); (case z9k => kba_ints); (case z9z => kba_size); k_whole); intro _ _)
  k_with "m call builtin:len" => (k_here; (with_reducible show wpAny _ _ (call (Value.builtin _) [Value.ref _]) _ _ _); k_dflt (refine' len_ba ?z9N ?z9m ?z9k ?z9z ?_; (case z9N => k_asm); (case z9m => k_mem); (case z9k => kba_ints); (case z9z => kba_size); k_whole))
  k_with "m subscriptTail" => (k_here; (with_reducible show wpAny _ _ (subscriptTail _ _ (Value.ref _) (Value.int _ _)) _ _ _); k_dflt (refine' item_ba ?z9N ?z9m ?z9k ?z9z ?z9l ?z9u ?_ ?z9hs ?z9ht; (case z9N => k_asm); (case z9m => k_mem); (case z9k => kba_ints); (case z9z => kba_size); (case z9l => kba_idx); (case z9u => kba_idx); (case z9hs => with_unfolding_all rfl); (case z9ht => intro _; with_unfolding_all rfl); k_whole); intro _ _ baLoZ baHiZ)
  k_with "m subscriptTail" => (k_here; (with_reducible show wpAny _ _ (subscriptTail _ (Expr.Slice _ _ none _) (Value.ref _) (Value.ref _)) _ _ _); (with_reducible rename Fr _ _ _ _ => FZ); (with_reducible rename News _ _ _ _ => NZ); (refine' cut_ba (s := ⟨_, _, _, _, _⟩) FZ NZ ?z9m ?z9k ?z9l ?z9u ?z9z ?_ ?z9hs ?z9ht; (case z9m => k_mem); (case z9k => kba_ints); (case z9l => constructor); (case z9u => constructor); (case z9z => kba_size); (case z9hs => with_unfolding_all rfl); (case z9ht => intro _; with_unfolding_all rfl)); intro _ _ _ FZ NZ l1Z kbcKZ; (try k_lt l1Z); (try simp only [Option.elim, KBc.clip_lit, clipAt_nat, List.drop_zero, Nat.sub_zero] at kbcKZ); (try k_sweep))
  k_with "m compareOp Lt bytes bytes" => refine lt_bytes ?_
  k_with "m compareOp Gt bytes bytes" => refine gt_bytes ?_
  k_with "m binaryOp LShift int int" => (k_here; first
    | ((with_reducible show wpAny _ _ (binaryOp Operator.LShift (Value.int _ _) (Value.int 8 _)) _ _ _); k_dflt (refine shl_K (n := 8) 256 (by decide +kernel) (by decide +kernel) (by decide +kernel) ?_ ?_ ?_; omega; omega; (try dsimp only)))
    | ((with_reducible show wpAny _ _ (binaryOp Operator.LShift (Value.int _ _) (Value.int 16 _)) _ _ _); k_dflt (refine shl_K (n := 16) 65536 (by decide +kernel) (by decide +kernel) (by decide +kernel) ?_ ?_ ?_; omega; omega; (try dsimp only)))
    | ((with_reducible show wpAny _ _ (binaryOp Operator.LShift (Value.int _ _) (Value.int 24 _)) _ _ _); k_dflt (refine shl_K (n := 24) 16777216 (by decide +kernel) (by decide +kernel) (by decide +kernel) ?_ ?_ ?_; omega; omega; (try dsimp only)))
    | ((with_reducible show wpAny _ _ (binaryOp Operator.LShift (Value.int _ _) (Value.int 32 _)) _ _ _); k_dflt (refine shl_K (n := 32) 4294967296 (by decide +kernel) (by decide +kernel) (by decide +kernel) ?_ ?_ ?_; omega; omega; (try dsimp only))))
  k_with "m binaryOp RShift int int" => (k_here; first
    | ((with_reducible show wpAny _ _ (binaryOp Operator.RShift (Value.int _ _) (Value.int 8 _)) _ _ _); k_dflt (refine shr_K (n := 8) 256 (by decide +kernel) (by decide +kernel) ?_ ?_; omega))
    | ((with_reducible show wpAny _ _ (binaryOp Operator.RShift (Value.int _ _) (Value.int 16 _)) _ _ _); k_dflt (refine shr_K (n := 16) 65536 (by decide +kernel) (by decide +kernel) ?_ ?_; omega))
    | ((with_reducible show wpAny _ _ (binaryOp Operator.RShift (Value.int _ _) (Value.int 24 _)) _ _ _); k_dflt (refine shr_K (n := 24) 16777216 (by decide +kernel) (by decide +kernel) ?_ ?_; omega))
    | ((with_reducible show wpAny _ _ (binaryOp Operator.RShift (Value.int _ _) (Value.int 32 _)) _ _ _); k_dflt (refine shr_K (n := 32) 4294967296 (by decide +kernel) (by decide +kernel) ?_ ?_; omega)))
  k_with "m binaryOp BitOr int int" => (k_here; with_reducible (first
    | (refine or_lo_K 256 8 (by decide +kernel) ?_ ?_ ?_ ?_; omega; omega; omega; (try dsimp only))
    | (refine or_lo_K 65536 16 (by decide +kernel) ?_ ?_ ?_ ?_; omega; omega; omega; (try dsimp only))
    | (refine or_lo_K 16777216 24 (by decide +kernel) ?_ ?_ ?_ ?_; omega; omega; omega; (try dsimp only))
    | (refine or_lo_K 4294967296 32 (by decide +kernel) ?_ ?_ ?_ ?_; omega; omega; omega; (try dsimp only))
    | (refine or_hi_K 256 8 (by decide +kernel) ?_ ?_ ?_ ?_; omega; omega; omega; (try dsimp only))))
  k_with "m binaryOp BitAnd int int" => (k_here; with_reducible (first | refine and8_K ?_ | refine and32_K ?_))
  k_with "m binaryOp Add bytes bytes" => (k_here; (with_reducible show wpAny _ _ (binaryOp Operator.Add (Value.bytes _ _) (Value.bytes _ _)) _ _ _); (refine' KBa.add_K ?z9p ?z9q ?z9z ?_); (case z9p => kba_ints); (case z9q => kba_ints); (case z9z => (try simp only [le8_length, le4_length, List.length_append, List.length_take, List.length_drop, List.length_cons, List.length_nil]) <;> omega); intro _ _ hAddZ; (try dsimp only))
  k_with "m compareOp Lt ref ref" => (k_here; (with_reducible show wpAny _ _ (compareOp CmpOp.Lt (Value.ref _) (Value.ref _)) _ _ _); k_dflt (refine' lt_tup ?z9N ?z9x ?z9y ?z9u ?_; (case z9N => k_asm); (case z9x => k_mem); (case z9y => k_mem); (case z9u => first | ktr_units | k_units); k_whole))
  k_with "m call builtin:len" => (k_here; (with_reducible show wpAny _ _ (call (Value.builtin _) [Value.ref _]) _ _ _); k_dflt (refine' call_len_list ?z9l ?z9f ?_; (case z9l => exact News.isList (by k_asm) (by k_mem)); (case z9f => (simp only [List.size_toArray]; first | omega | ((have hL9 := IntsAre.length (by assumption)); omega))); k_whole))
  k_with "m k_all" => first | assumption | (refine' off_of_lt ?z9lt9 ?z9le9; (case z9lt9 => assumption); (case z9le9 => ((try dsimp only); omega)))
  k_with "m binaryOp Pow int int" => (k_here; (with_reducible refine pow_K ?_ ?_ ?_ ?_ ?_); (focus omega); (focus first | (refine' pow_lim ?z9pa ?z9pb; (case z9pa => with_reducible assumption); (case z9pb => omega)) | omega); omega; omega; intro hPow9Z hLog9Z; (try dsimp only))
  k_with "m call type:bytes" => (k_here; (with_reducible show wpAny _ _ (call (Value.type _) [Value.ref _]) _ _ _); k_dflt (refine' KBa.make_K ?z9mkF ?z9mkN ?z9mkh ?z9mkl ?z9mki ?z9mkr ?z9mkz ?_; (case z9mkF => k_asm); (case z9mkN => k_asm); (case z9mkl => is_list); (case z9mki => first | l_ints | l_intsW); (case z9mkr => (intro n9Z hn9Z; (simp only [List.mem_cons, List.not_mem_nil, or_false] at hn9Z); rcases hn9Z with rfl; refine menu_b ?_ ?_ ?_ _ <;> decide)); (case z9mkz => (simp only [List.length_cons, List.length_nil]; omega)); (case z9mkh => with_unfolding_all rfl); k_whole); intro hZ tZ kZ FZ NZ hIn9Z; (try k_sweep))
  k_with "m binaryOp FloorDiv int int" => (k_here; (with_reducible refine fdiv_K ?_ ?_ ?_); (focus omega); (focus first | assumption | (refine log_small ?_ ?_ <;> omega)); (try dsimp only))
  k_with "m binaryOp Mod int int" => (k_here; (with_reducible refine fmod_K ?_ ?_); (focus omega); (try dsimp only))
  k_with "m eval ListComp" => (k_here; (with_reducible show wpAny _ _ (eval (Expr.ListComp _ _ _ _) _) _ _ _); kcf_look; k_dflt (refine LCg.ListComp_U (F₀ := by k_asm) (by with_unfolding_all rfl) (by decide) (by rfl) (by decide) (by rfl) ?_))
  k_with "m formatField int" => (k_here; (refine fmt_int (by with_reducible assumption) ?_); intro y9Z hy9Z; (try dsimp only))
  k_with "m And" => (k_here; (with_reducible show PySem.Str.length (_ ++ _) ≤ sizeLine ∧ _); first | ((with_reducible refine' ⟨fit_y ?z9ya ?z9yb, ?_⟩); (case z9ya => with_reducible assumption); (case z9yb => decide +kernel)) | ((with_reducible show PySem.Str.length (_ ++ _ ++ _) ≤ sizeLine ∧ _); (with_reducible refine' ⟨fit_yl ?z9ya ?z9yb ?z9yc, ?_⟩); (case z9ya => with_reducible assumption); (case z9yb => decide +kernel); (case z9yc => decide +kernel)))
  k_with "m joinParts" => (k_here; (with_reducible show wpAny _ _ (joinParts _ (evalEach [] _)) _ _ _); (with_reducible refine joinParts_nilE ?_); (with_reducible refine' joinParts_nil ?_ ?z9jz); (case z9jz => first | ((with_reducible show PySem.Str.length (_ ++ _ ++ _) ≤ sizeLine); (with_reducible refine' fit_yl ?z9ya ?z9yb ?z9yc); (case z9ya => with_reducible assumption); (case z9yb => decide +kernel); (case z9yc => decide +kernel)) | ((with_reducible refine' fit_y ?z9ya ?z9yb); (case z9ya => with_reducible assumption); (case z9yb => decide +kernel))); (try dsimp only))
  k_with "m formatField int" => (k_here; (refine' fmt_int (shown (N := 1000) ?z9u1 ?z9u2 ?z9u3) ?_; (case z9u1 => omega); (case z9u2 => omega); (case z9u3 => decide +kernel)); intro y9Z hy9Z; (try dsimp only))
  trivial
set_option maxHeartbeats 1000000 in
theorem user_of_bytes {w : World} {mean : ExcName → Option Value} {mg mb : Str → Option Value} {dp un : Nat} {gd : Option (List Code)} {cn : Str} {cs : Scope} {a : Addr} {ccd : Value} {cl : List (Str × Addr)} {outer : List Env} {A₀ : Around} {base h₀ : Heap} {L : Addr} {m : Str → Option Value} {s : Shared} {Q E : Value → Shared → Prop} {news : List (Addr × Obj)} {b : Array UInt8} {ks : List Int} {t : Tok}
  (B : Below A₀ base outer h₀) (F : Fr h₀ L s.heap m) (X : (Mine.hd.heap_39 w.params).In h₀) (N : News h₀ L s.heap news) (T : Top Mine.view (looseW Mine.view []) mean mg mb h₀) (hk : cs.kind = .function)
  (hb : KBw.bInts b = ks)
  (hlen : 8 ≤ ks.length)
  (hz : ks.length ≤ 1000)
  (hd : dp + 1 < recursionLimit) (hu : un + 8 < cLine)
  (hret : ∀ b' t' (h' : Heap) (tk' : Nat), KBw.bInts b' = ks.take (ks.length - 8) → Fr h₀ L h' m → News h₀ L h' news → Q (.bytes b' t') { s with heap := h', toks := tk' }) :
  wpAny (model Challenge.rw_xw0260_01.row.prog w) (ktrTop dp un gd cn cs L a ccd cl outer) (call (.ref 131) [.bytes b t]) Q E s := by
  revert X; k_fill; intro X
  refine wpAny_call ?_
  k_dflt cell_enter
  k_steps
  all_goals exact hret _ _ _ _ (cut_eight (by assumption) hlen) (by assumption) (by first | assumption | exact drop1 (by assumption))
theorem lines_3 : True := by
  k_with "m call ref" => (k_here; (with_reducible show wpAny _ _ (call (Value.ref 131) [Value.bytes _ _]) _ _ _); k_dflt (refine' user_of_bytes ?z9B ?z9F ?z9X ?z9N ?z9T ?z9hk ?z9hhb ?z9hhlen ?z9hhz ?z9hd ?z9hu ?_; (case z9B => k_asm); (case z9F => k_asm); (case z9X => k_asm); (case z9N => k_asm); (case z9T => k_asm); (case z9hk => first | exact rfl | assumption); (case z9hhb => kba_ints); (case z9hhlen => first | omega | kba_size | l_fact); (case z9hhz => first | omega | kba_size | l_fact); (case z9hd => ktr_room); (case z9hu => ktr_units); k_whole); intro r0Z r1Z hZ tkZ hRZ FZ NZ; (try dsimp only); (try k_sweep); walk_say "BY user_of_bytes")
  trivial
set_option maxHeartbeats 1000000 in
theorem user_of_ba {w : World} {mean : ExcName → Option Value} {mg mb : Str → Option Value} {dp un : Nat} {gd : Option (List Code)} {cn : Str} {cs : Scope} {a : Addr} {ccd : Value} {cl : List (Str × Addr)} {outer : List Env} {A₀ : Around} {base h₀ : Heap} {L : Addr} {m : Str → Option Value} {s : Shared} {Q E : Value → Shared → Prop} {news : List (Addr × Obj)} {x : Addr} {b : Array UInt8} {ks : List Int}
  (B : Below A₀ base outer h₀) (F : Fr h₀ L s.heap m) (X : (Mine.hd.heap_39 w.params).In h₀) (N : News h₀ L s.heap news) (T : Top Mine.view (looseW Mine.view []) mean mg mb h₀) (hk : cs.kind = .function)
  (hx : (x, baObj b) ∈ news)
  (hb : KBw.bInts b = ks)
  (hlen : 8 ≤ ks.length)
  (hz : ks.length ≤ 1000)
  (hd : dp + 1 < recursionLimit) (hu : un + 8 < cLine)
  (hret : ∀ b' t' (h' : Heap) (tk' : Nat), KBw.bInts b' = ks.take (ks.length - 8) → Fr h₀ L h' m → News h₀ L h' news → Q (.bytes b' t') { s with heap := h', toks := tk' }) :
  wpAny (model Challenge.rw_xw0260_01.row.prog w) (ktrTop dp un gd cn cs L a ccd cl outer) (call (.ref 131) [.ref x]) Q E s := by
  revert X; k_fill; intro X
  refine wpAny_call ?_
  k_dflt cell_enter
  k_steps
  all_goals exact hret _ _ _ _ (cut_eight (by assumption) hlen) (by assumption) (by first | assumption | exact drop1 (by assumption))
theorem lines_4 : True := by
  k_with "m call ref" => (k_here; (with_reducible show wpAny _ _ (call (Value.ref 131) [Value.ref _]) _ _ _); k_dflt (refine' user_of_ba ?z9B ?z9F ?z9X ?z9N ?z9T ?z9hk ?z9hhx ?z9hhb ?z9hhlen ?z9hhz ?z9hd ?z9hu ?_; (case z9B => k_asm); (case z9F => k_asm); (case z9X => k_asm); (case z9N => k_asm); (case z9T => k_asm); (case z9hk => first | exact rfl | assumption); (case z9hhx => k_mem); (case z9hhb => kba_ints); (case z9hhlen => first | omega | kba_size | l_fact); (case z9hhz => first | omega | kba_size | l_fact); (case z9hd => ktr_room); (case z9hu => ktr_units); k_whole); intro r0Z r1Z hZ tkZ hRZ FZ NZ; (try dsimp only); (try k_sweep); walk_say "BY user_of_ba")
  trivial
set_option maxHeartbeats 1000000 in
theorem rf32_bytes {w : World} {mean : ExcName → Option Value} {mg mb : Str → Option Value} {dp un : Nat} {gd : Option (List Code)} {cn : Str} {cs : Scope} {a : Addr} {ccd : Value} {cl : List (Str × Addr)} {outer : List Env} {A₀ : Around} {base h₀ : Heap} {L : Addr} {m : Str → Option Value} {s : Shared} {Q E : Value → Shared → Prop} {news : List (Addr × Obj)} {b : Array UInt8} {ks : List Int} {t u : Tok} {i : Int}
  (B : Below A₀ base outer h₀) (F : Fr h₀ L s.heap m) (X : (Mine.hd.heap_39 w.params).In h₀) (N : News h₀ L s.heap news) (T : Top Mine.view (looseW Mine.view []) mean mg mb h₀) (hk : cs.kind = .function)
  (hb : KBw.bInts b = ks)
  (h0 : 0 ≤ i)
  (h1 : i + 4 ≤ (ks.length : Int))
  (hz : ks.length ≤ 1000)
  (hd : dp + 1 < recursionLimit) (hu : un + 8 < cLine)
  (hret : ∀ t' (h' : Heap) (tk' : Nat), 0 ≤ ks.getD i.toNat 0 + ks.getD (i + 1).toNat 0 * 256 + ks.getD (i + 2).toNat 0 * 65536 + ks.getD (i + 3).toNat 0 * 16777216 → ks.getD i.toNat 0 + ks.getD (i + 1).toNat 0 * 256 + ks.getD (i + 2).toNat 0 * 65536 + ks.getD (i + 3).toNat 0 * 16777216 < 4294967296 → Fr h₀ L h' m → News h₀ L h' news → Q (.int (ks.getD i.toNat 0 + ks.getD (i + 1).toNat 0 * 256 + ks.getD (i + 2).toNat 0 * 65536 + ks.getD (i + 3).toNat 0 * 16777216) t') { s with heap := h', toks := tk' }) :
  wpAny (model Challenge.rw_xw0260_01.row.prog w) (ktrTop dp un gd cn cs L a ccd cl outer) (call (.ref 96) [.bytes b t, .int i u]) Q E s := by
  revert X; k_fill; intro X
  refine wpAny_call ?_
  k_dflt cell_enter
  k_steps
  all_goals exact hret _ _ _ (by omega) (by omega) (by assumption) (by assumption)
theorem lines_5 : True := by
  k_with "m call ref" => (k_here; (with_reducible show wpAny _ _ (call (Value.ref 96) [Value.bytes _ _, Value.int _ _]) _ _ _); k_dflt (refine' rf32_bytes ?z9B ?z9F ?z9X ?z9N ?z9T ?z9hk ?z9hhb ?z9hh0 ?z9hh1 ?z9hhz ?z9hd ?z9hu ?_; (case z9B => k_asm); (case z9F => k_asm); (case z9X => k_asm); (case z9N => k_asm); (case z9T => k_asm); (case z9hk => first | exact rfl | assumption); (case z9hhb => kba_ints); (case z9hh0 => first | omega | kba_size | l_fact); (case z9hh1 => first | omega | kba_size | l_fact); (case z9hhz => first | omega | kba_size | l_fact); (case z9hd => ktr_room); (case z9hu => ktr_units); k_whole); intro r0Z hZ tkZ hR0Z hR1Z FZ NZ; (try dsimp only); (try k_sweep); walk_say "BY rf32_bytes")
  trivial
set_option maxHeartbeats 1000000 in
theorem rf32_ba {w : World} {mean : ExcName → Option Value} {mg mb : Str → Option Value} {dp un : Nat} {gd : Option (List Code)} {cn : Str} {cs : Scope} {a : Addr} {ccd : Value} {cl : List (Str × Addr)} {outer : List Env} {A₀ : Around} {base h₀ : Heap} {L : Addr} {m : Str → Option Value} {s : Shared} {Q E : Value → Shared → Prop} {news : List (Addr × Obj)} {x : Addr} {b : Array UInt8} {ks : List Int} {u : Tok} {i : Int}
  (B : Below A₀ base outer h₀) (F : Fr h₀ L s.heap m) (X : (Mine.hd.heap_39 w.params).In h₀) (N : News h₀ L s.heap news) (T : Top Mine.view (looseW Mine.view []) mean mg mb h₀) (hk : cs.kind = .function)
  (hx : (x, baObj b) ∈ news)
  (hb : KBw.bInts b = ks)
  (h0 : 0 ≤ i)
  (h1 : i + 4 ≤ (ks.length : Int))
  (hz : ks.length ≤ 1000)
  (hd : dp + 1 < recursionLimit) (hu : un + 8 < cLine)
  (hret : ∀ t' (h' : Heap) (tk' : Nat), 0 ≤ ks.getD i.toNat 0 + ks.getD (i + 1).toNat 0 * 256 + ks.getD (i + 2).toNat 0 * 65536 + ks.getD (i + 3).toNat 0 * 16777216 → ks.getD i.toNat 0 + ks.getD (i + 1).toNat 0 * 256 + ks.getD (i + 2).toNat 0 * 65536 + ks.getD (i + 3).toNat 0 * 16777216 < 4294967296 → Fr h₀ L h' m → News h₀ L h' news → Q (.int (ks.getD i.toNat 0 + ks.getD (i + 1).toNat 0 * 256 + ks.getD (i + 2).toNat 0 * 65536 + ks.getD (i + 3).toNat 0 * 16777216) t') { s with heap := h', toks := tk' }) :
  wpAny (model Challenge.rw_xw0260_01.row.prog w) (ktrTop dp un gd cn cs L a ccd cl outer) (call (.ref 96) [.ref x, .int i u]) Q E s := by
  revert X; k_fill; intro X
  refine wpAny_call ?_
  k_dflt cell_enter
  k_steps
  all_goals exact hret _ _ _ (by omega) (by omega) (by assumption) (by assumption)
theorem lines_6 : True := by
  k_with "m call ref" => (k_here; (with_reducible show wpAny _ _ (call (Value.ref 96) [Value.ref _, Value.int _ _]) _ _ _); k_dflt (refine' rf32_ba ?z9B ?z9F ?z9X ?z9N ?z9T ?z9hk ?z9hhx ?z9hhb ?z9hh0 ?z9hh1 ?z9hhz ?z9hd ?z9hu ?_; (case z9B => k_asm); (case z9F => k_asm); (case z9X => k_asm); (case z9N => k_asm); (case z9T => k_asm); (case z9hk => first | exact rfl | assumption); (case z9hhx => k_mem); (case z9hhb => kba_ints); (case z9hh0 => first | omega | kba_size | l_fact); (case z9hh1 => first | omega | kba_size | l_fact); (case z9hhz => first | omega | kba_size | l_fact); (case z9hd => ktr_room); (case z9hu => ktr_units); k_whole); intro r0Z hZ tkZ hR0Z hR1Z FZ NZ; (try dsimp only); (try k_sweep); walk_say "BY rf32_ba")
  trivial
set_option maxHeartbeats 1000000 in
theorem rf64_bytes {w : World} {mean : ExcName → Option Value} {mg mb : Str → Option Value} {dp un : Nat} {gd : Option (List Code)} {cn : Str} {cs : Scope} {a : Addr} {ccd : Value} {cl : List (Str × Addr)} {outer : List Env} {A₀ : Around} {base h₀ : Heap} {L : Addr} {m : Str → Option Value} {s : Shared} {Q E : Value → Shared → Prop} {news : List (Addr × Obj)} {b : Array UInt8} {ks : List Int} {t u : Tok} {i : Int}
  (B : Below A₀ base outer h₀) (F : Fr h₀ L s.heap m) (X : (Mine.hd.heap_39 w.params).In h₀) (N : News h₀ L s.heap news) (T : Top Mine.view (looseW Mine.view []) mean mg mb h₀) (hk : cs.kind = .function)
  (hb : KBw.bInts b = ks)
  (h0 : 0 ≤ i)
  (h1 : i + 8 ≤ (ks.length : Int))
  (hz : ks.length ≤ 1000)
  (hd : dp + 2 < recursionLimit) (hu : un + 16 < cLine)
  (hret : ∀ t' (h' : Heap) (tk' : Nat), 0 ≤ ks.getD i.toNat 0 + ks.getD (i + 1).toNat 0 * 256 + ks.getD (i + 2).toNat 0 * 65536 + ks.getD (i + 3).toNat 0 * 16777216 + (ks.getD (i + 4).toNat 0 + ks.getD ((i + 4) + 1).toNat 0 * 256 + ks.getD ((i + 4) + 2).toNat 0 * 65536 + ks.getD ((i + 4) + 3).toNat 0 * 16777216) * 4294967296 → ks.getD i.toNat 0 + ks.getD (i + 1).toNat 0 * 256 + ks.getD (i + 2).toNat 0 * 65536 + ks.getD (i + 3).toNat 0 * 16777216 + (ks.getD (i + 4).toNat 0 + ks.getD ((i + 4) + 1).toNat 0 * 256 + ks.getD ((i + 4) + 2).toNat 0 * 65536 + ks.getD ((i + 4) + 3).toNat 0 * 16777216) * 4294967296 < 18446744073709551616 → Fr h₀ L h' m → News h₀ L h' news → Q (.int (ks.getD i.toNat 0 + ks.getD (i + 1).toNat 0 * 256 + ks.getD (i + 2).toNat 0 * 65536 + ks.getD (i + 3).toNat 0 * 16777216 + (ks.getD (i + 4).toNat 0 + ks.getD ((i + 4) + 1).toNat 0 * 256 + ks.getD ((i + 4) + 2).toNat 0 * 65536 + ks.getD ((i + 4) + 3).toNat 0 * 16777216) * 4294967296) t') { s with heap := h', toks := tk' }) :
  wpAny (model Challenge.rw_xw0260_01.row.prog w) (ktrTop dp un gd cn cs L a ccd cl outer) (call (.ref 103) [.bytes b t, .int i u]) Q E s := by
  revert X; k_fill; intro X
  refine wpAny_call ?_
  k_dflt cell_enter
  k_steps
  all_goals exact hret _ _ _ (by omega) (by omega) (by assumption) (by assumption)
theorem lines_7 : True := by
  k_with "m call ref" => (k_here; (with_reducible show wpAny _ _ (call (Value.ref 103) [Value.bytes _ _, Value.int _ _]) _ _ _); k_dflt (refine' rf64_bytes ?z9B ?z9F ?z9X ?z9N ?z9T ?z9hk ?z9hhb ?z9hh0 ?z9hh1 ?z9hhz ?z9hd ?z9hu ?_; (case z9B => k_asm); (case z9F => k_asm); (case z9X => k_asm); (case z9N => k_asm); (case z9T => k_asm); (case z9hk => first | exact rfl | assumption); (case z9hhb => kba_ints); (case z9hh0 => first | omega | kba_size | l_fact); (case z9hh1 => first | omega | kba_size | l_fact); (case z9hhz => first | omega | kba_size | l_fact); (case z9hd => ktr_room); (case z9hu => ktr_units); k_whole); intro r0Z hZ tkZ hR0Z hR1Z FZ NZ; (try dsimp only); (try k_sweep); walk_say "BY rf64_bytes")
  trivial
set_option maxHeartbeats 1000000 in
theorem rf64_ba {w : World} {mean : ExcName → Option Value} {mg mb : Str → Option Value} {dp un : Nat} {gd : Option (List Code)} {cn : Str} {cs : Scope} {a : Addr} {ccd : Value} {cl : List (Str × Addr)} {outer : List Env} {A₀ : Around} {base h₀ : Heap} {L : Addr} {m : Str → Option Value} {s : Shared} {Q E : Value → Shared → Prop} {news : List (Addr × Obj)} {x : Addr} {b : Array UInt8} {ks : List Int} {u : Tok} {i : Int}
  (B : Below A₀ base outer h₀) (F : Fr h₀ L s.heap m) (X : (Mine.hd.heap_39 w.params).In h₀) (N : News h₀ L s.heap news) (T : Top Mine.view (looseW Mine.view []) mean mg mb h₀) (hk : cs.kind = .function)
  (hx : (x, baObj b) ∈ news)
  (hb : KBw.bInts b = ks)
  (h0 : 0 ≤ i)
  (h1 : i + 8 ≤ (ks.length : Int))
  (hz : ks.length ≤ 1000)
  (hd : dp + 2 < recursionLimit) (hu : un + 16 < cLine)
  (hret : ∀ t' (h' : Heap) (tk' : Nat), 0 ≤ ks.getD i.toNat 0 + ks.getD (i + 1).toNat 0 * 256 + ks.getD (i + 2).toNat 0 * 65536 + ks.getD (i + 3).toNat 0 * 16777216 + (ks.getD (i + 4).toNat 0 + ks.getD ((i + 4) + 1).toNat 0 * 256 + ks.getD ((i + 4) + 2).toNat 0 * 65536 + ks.getD ((i + 4) + 3).toNat 0 * 16777216) * 4294967296 → ks.getD i.toNat 0 + ks.getD (i + 1).toNat 0 * 256 + ks.getD (i + 2).toNat 0 * 65536 + ks.getD (i + 3).toNat 0 * 16777216 + (ks.getD (i + 4).toNat 0 + ks.getD ((i + 4) + 1).toNat 0 * 256 + ks.getD ((i + 4) + 2).toNat 0 * 65536 + ks.getD ((i + 4) + 3).toNat 0 * 16777216) * 4294967296 < 18446744073709551616 → Fr h₀ L h' m → News h₀ L h' news → Q (.int (ks.getD i.toNat 0 + ks.getD (i + 1).toNat 0 * 256 + ks.getD (i + 2).toNat 0 * 65536 + ks.getD (i + 3).toNat 0 * 16777216 + (ks.getD (i + 4).toNat 0 + ks.getD ((i + 4) + 1).toNat 0 * 256 + ks.getD ((i + 4) + 2).toNat 0 * 65536 + ks.getD ((i + 4) + 3).toNat 0 * 16777216) * 4294967296) t') { s with heap := h', toks := tk' }) :
  wpAny (model Challenge.rw_xw0260_01.row.prog w) (ktrTop dp un gd cn cs L a ccd cl outer) (call (.ref 103) [.ref x, .int i u]) Q E s := by
  revert X; k_fill; intro X
  refine wpAny_call ?_
  k_dflt cell_enter
  k_steps
  all_goals exact hret _ _ _ (by omega) (by omega) (by assumption) (by assumption)
theorem lines_8 : True := by
  k_with "m call ref" => (k_here; (with_reducible show wpAny _ _ (call (Value.ref 103) [Value.ref _, Value.int _ _]) _ _ _); k_dflt (refine' rf64_ba ?z9B ?z9F ?z9X ?z9N ?z9T ?z9hk ?z9hhx ?z9hhb ?z9hh0 ?z9hh1 ?z9hhz ?z9hd ?z9hu ?_; (case z9B => k_asm); (case z9F => k_asm); (case z9X => k_asm); (case z9N => k_asm); (case z9T => k_asm); (case z9hk => first | exact rfl | assumption); (case z9hhx => k_mem); (case z9hhb => kba_ints); (case z9hh0 => first | omega | kba_size | l_fact); (case z9hh1 => first | omega | kba_size | l_fact); (case z9hhz => first | omega | kba_size | l_fact); (case z9hd => ktr_room); (case z9hu => ktr_units); k_whole); intro r0Z hZ tkZ hR0Z hR1Z FZ NZ; (try dsimp only); (try k_sweep); walk_say "BY rf64_ba")
  trivial
theorem leV_at (ks : List Int) (n : Nat) : leV (ks.drop n) = ks.getD n 0 + 256 * leV (ks.drop (n + 1)) := by
  rw [List.getD_eq_getElem?_getD, ← List.drop_drop]
  have : ks[n]? = (ks.drop n)[0]? := by rw [List.getElem?_drop]; rfl
  rw [this]
  cases ks.drop n with
  | nil => rfl
  | cons d r => rfl
theorem horner4 (a b c d r : Int) : a + 256 * (b + 256 * (c + 256 * (d + 256 * r))) = a + b * 256 + c * 65536 + d * 16777216 + r * 4294967296 := by
  rw [Int.mul_comm b, Int.mul_comm c, Int.mul_comm d, Int.mul_comm r]
  simp only [Int.mul_add, ← Int.mul_assoc, Int.reduceMul, Int.add_assoc]
theorem tag_eq {ks : List Int} (h : 8 ≤ ks.length) : ks.getD ((ks.length : Int) - 8).toNat 0 + ks.getD (((ks.length : Int) - 8) + 1).toNat 0 * 256 + ks.getD (((ks.length : Int) - 8) + 2).toNat 0 * 65536 + ks.getD (((ks.length : Int) - 8) + 3).toNat 0 * 16777216 + (ks.getD (((ks.length : Int) - 8) + 4).toNat 0 + ks.getD ((((ks.length : Int) - 8) + 4) + 1).toNat 0 * 256 + ks.getD ((((ks.length : Int) - 8) + 4) + 2).toNat 0 * 65536 + ks.getD ((((ks.length : Int) - 8) + 4) + 3).toNat 0 * 16777216) * 4294967296 = leV (ks.drop (ks.length - 8)) := by
  obtain ⟨n, hn⟩ : ∃ n, ks.length = n + 8 := ⟨ks.length - 8, (Nat.sub_add_cancel h).symm⟩
  have z : ((ks.length : Int) - 8) = (n : Int) := by rw [hn]; exact Int.add_sub_cancel (n : Int) 8
  have q : ks.drop (n + 8) = [] := List.drop_of_length_le (Nat.le_of_eq hn)
  rw [z, show ks.length - 8 = n by rw [hn, Nat.add_sub_cancel], leV_at, leV_at, leV_at, leV_at, leV_at, leV_at, leV_at, leV_at, show n + 1 + 1 + 1 + 1 + 1 + 1 + 1 + 1 = n + 8 from rfl, q, horner4, horner4, show leV [] * 4294967296 = 0 from rfl, Int.add_zero]
  rfl
set_option maxHeartbeats 1000000 in
theorem tag_of_bytes {w : World} {mean : ExcName → Option Value} {mg mb : Str → Option Value} {dp un : Nat} {gd : Option (List Code)} {cn : Str} {cs : Scope} {a : Addr} {ccd : Value} {cl : List (Str × Addr)} {outer : List Env} {A₀ : Around} {base h₀ : Heap} {L : Addr} {m : Str → Option Value} {s : Shared} {Q E : Value → Shared → Prop} {news : List (Addr × Obj)} {b : Array UInt8} {ks : List Int} {t : Tok}
  (B : Below A₀ base outer h₀) (F : Fr h₀ L s.heap m) (X : (Mine.hd.heap_39 w.params).In h₀) (N : News h₀ L s.heap news) (T : Top Mine.view (looseW Mine.view []) mean mg mb h₀) (hk : cs.kind = .function)
  (hb : KBw.bInts b = ks)
  (hlen : 8 ≤ ks.length)
  (hz : ks.length ≤ 1000)
  (hd : dp + 3 < recursionLimit) (hu : un + 24 < cLine)
  (hret : ∀ t' (h' : Heap) (tk' : Nat), 0 ≤ leV (ks.drop (ks.length - 8)) → leV (ks.drop (ks.length - 8)) < 18446744073709551616 → Fr h₀ L h' m → News h₀ L h' news → Q (.int (leV (ks.drop (ks.length - 8))) t') { s with heap := h', toks := tk' }) :
  wpAny (model Challenge.rw_xw0260_01.row.prog w) (ktrTop dp un gd cn cs L a ccd cl outer) (call (.ref 138) [.bytes b t]) Q E s := by
  revert X; k_fill; intro X
  refine wpAny_call ?_
  k_dflt cell_enter
  k_steps
  all_goals rw [tag_eq hlen] at *
  all_goals exact hret _ _ _ (by assumption) (by assumption) (by assumption) (by assumption)
theorem lines_9 : True := by
  k_with "m call ref" => (k_here; (with_reducible show wpAny _ _ (call (Value.ref 138) [Value.bytes _ _]) _ _ _); k_dflt (refine' tag_of_bytes ?z9B ?z9F ?z9X ?z9N ?z9T ?z9hk ?z9hhb ?z9hhlen ?z9hhz ?z9hd ?z9hu ?_; (case z9B => k_asm); (case z9F => k_asm); (case z9X => k_asm); (case z9N => k_asm); (case z9T => k_asm); (case z9hk => first | exact rfl | assumption); (case z9hhb => kba_ints); (case z9hhlen => first | omega | kba_size | l_fact); (case z9hhz => first | omega | kba_size | l_fact); (case z9hd => ktr_room); (case z9hu => ktr_units); k_whole); intro r0Z hZ tkZ hR0Z hR1Z FZ NZ; (try dsimp only); (try k_sweep); walk_say "BY tag_of_bytes")
  trivial
set_option maxHeartbeats 1000000 in
theorem tag_of_ba {w : World} {mean : ExcName → Option Value} {mg mb : Str → Option Value} {dp un : Nat} {gd : Option (List Code)} {cn : Str} {cs : Scope} {a : Addr} {ccd : Value} {cl : List (Str × Addr)} {outer : List Env} {A₀ : Around} {base h₀ : Heap} {L : Addr} {m : Str → Option Value} {s : Shared} {Q E : Value → Shared → Prop} {news : List (Addr × Obj)} {x : Addr} {b : Array UInt8} {ks : List Int}
  (B : Below A₀ base outer h₀) (F : Fr h₀ L s.heap m) (X : (Mine.hd.heap_39 w.params).In h₀) (N : News h₀ L s.heap news) (T : Top Mine.view (looseW Mine.view []) mean mg mb h₀) (hk : cs.kind = .function)
  (hx : (x, baObj b) ∈ news)
  (hb : KBw.bInts b = ks)
  (hlen : 8 ≤ ks.length)
  (hz : ks.length ≤ 1000)
  (hd : dp + 3 < recursionLimit) (hu : un + 24 < cLine)
  (hret : ∀ t' (h' : Heap) (tk' : Nat), 0 ≤ leV (ks.drop (ks.length - 8)) → leV (ks.drop (ks.length - 8)) < 18446744073709551616 → Fr h₀ L h' m → News h₀ L h' news → Q (.int (leV (ks.drop (ks.length - 8))) t') { s with heap := h', toks := tk' }) :
  wpAny (model Challenge.rw_xw0260_01.row.prog w) (ktrTop dp un gd cn cs L a ccd cl outer) (call (.ref 138) [.ref x]) Q E s := by
  revert X; k_fill; intro X
  refine wpAny_call ?_
  k_dflt cell_enter
  k_steps
  all_goals rw [tag_eq hlen] at *
  all_goals exact hret _ _ _ (by assumption) (by assumption) (by assumption) (by assumption)
theorem lines_10 : True := by
  k_with "m call ref" => (k_here; (with_reducible show wpAny _ _ (call (Value.ref 138) [Value.ref _]) _ _ _); k_dflt (refine' tag_of_ba ?z9B ?z9F ?z9X ?z9N ?z9T ?z9hk ?z9hhx ?z9hhb ?z9hhlen ?z9hhz ?z9hd ?z9hu ?_; (case z9B => k_asm); (case z9F => k_asm); (case z9X => k_asm); (case z9N => k_asm); (case z9T => k_asm); (case z9hk => first | exact rfl | assumption); (case z9hhx => k_mem); (case z9hhb => kba_ints); (case z9hhlen => first | omega | kba_size | l_fact); (case z9hhz => first | omega | kba_size | l_fact); (case z9hd => ktr_room); (case z9hu => ktr_units); k_whole); intro r0Z hZ tkZ hR0Z hR1Z FZ NZ; (try dsimp only); (try k_sweep); walk_say "BY tag_of_ba")
  trivial

/-- the eight octets of a number, the lowest first -/
def le4 (n : Int) : List Int := [n % 256, n / 256 % 256, n / 65536 % 256, n / 16777216]
def le8 (n : Int) : List Int := [n % 256, n / 256 % 256, n / 65536 % 256, n / 16777216 % 256, n / 4294967296 % 256, n / 1099511627776 % 256, n / 281474976710656 % 256, n / 72057594037927936]
theorem div2 (n : Int) {a b c : Int} (ha : 0 ≤ a) (h : a * b = c) : n / a / b = n / c := by rw [← h, Int.ediv_ediv_of_nonneg ha]
theorem moddiv (n : Int) {a b c : Int} (ha : 0 < a) (h : a * b = c) : n % c / a = n / a % b := by
  rw [← h, Int.emod_def, Int.emod_def, Int.ediv_ediv_of_nonneg (Int.le_of_lt ha), Int.mul_assoc, Int.sub_eq_add_neg, ← Int.mul_neg, Int.add_mul_ediv_left _ _ (Int.ne_of_gt ha)]
  rfl
theorem modmod (n : Int) {a b c d : Int} (ha : 0 < a) (h : a * b = c) (hd : d ∣ b) : n % c / a % d = n / a % d := by rw [moddiv n ha h, Int.emod_emod_of_dvd _ hd]
theorem le8_two (n : Int) : le4 (n % 4294967296) ++ le4 (n / 4294967296) = le8 n := by
  simp only [le4, le8, List.cons_append, List.nil_append]
  rw [Int.emod_emod_of_dvd n (show (256 : Int) ∣ 4294967296 by decide), modmod n (by decide) (show (256 : Int) * 16777216 = 4294967296 from rfl) (by decide), modmod n (by decide) (show (65536 : Int) * 65536 = 4294967296 from rfl) (by decide), moddiv n (by decide) (show (16777216 : Int) * 256 = 4294967296 from rfl), div2 n (by decide) (show (4294967296 : Int) * 256 = 1099511627776 from rfl), div2 n (by decide) (show (4294967296 : Int) * 65536 = 281474976710656 from rfl), div2 n (by decide) (show (4294967296 : Int) * 16777216 = 72057594037927936 from rfl)]
theorem byte_in (n : Int) : 0 ≤ n % 256 ∧ n % 256 < 256 := ⟨Int.emod_nonneg _ (by decide), Int.emod_lt_of_pos _ (by decide)⟩
theorem top_in {n a c : Int} (h0 : 0 ≤ n) (ha : 0 < a) (h : 256 * a = c) (h1 : n < c) : 0 ≤ n / a ∧ n / a < 256 := ⟨Int.ediv_nonneg h0 (Int.le_of_lt ha), Int.ediv_lt_of_lt_mul ha (h ▸ h1)⟩
theorem le4_in {n : Int} (h0 : 0 ≤ n) (h1 : n < 4294967296) : KBa.In (le4 n) := by
  intro k hk
  simp only [le4, List.mem_cons, List.not_mem_nil, or_false] at hk
  rcases hk with rfl | rfl | rfl | rfl
  · exact byte_in _
  · exact byte_in _
  · exact byte_in _
  · exact top_in h0 (by decide) (by rfl) h1
theorem step (n : Int) {a c : Int} (ha : 0 ≤ a) (h : a * 256 = c) : n / a % 256 + 256 * (n / c) = n / a := by
  rw [← div2 n ha h]; exact Int.emod_add_mul_ediv _ _
theorem le4_make {n : Int} (h0 : 0 ≤ n) (h1 : n < 4294967296) : KBw.bInts #[(n % 256).toNat.toUInt8, (n / 256 % 256).toNat.toUInt8, (n / 65536 % 256).toNat.toUInt8, (n / 16777216).toNat.toUInt8] = le4 n := KBa.ints_make (le4_in h0 h1)
theorem le4_length (n : Int) : (le4 n).length = 4 := rfl
theorem le8_length (n : Int) : (le8 n).length = 8 := rfl
theorem leV_le8 {n : Int} (_h0 : 0 ≤ n) : leV (le8 n) = n := by
  simp only [le8, leV]
  rw [Int.mul_zero, Int.add_zero, step n (by decide) (show (281474976710656 : Int) * 256 = 72057594037927936 from rfl), step n (by decide) (show (1099511627776 : Int) * 256 = 281474976710656 from rfl), step n (by decide) (show (4294967296 : Int) * 256 = 1099511627776 from rfl), step n (by decide) (show (16777216 : Int) * 256 = 4294967296 from rfl), step n (by decide) (show (65536 : Int) * 256 = 16777216 from rfl), step n (by decide) (show (256 : Int) * 256 = 65536 from rfl)]
  exact Int.emod_add_mul_ediv _ _
theorem le8_cons (q : Int) {x : Int} (x0 : 0 ≤ x) (x1 : x < 256) : le8 (q * 256 + x) = [x, q % 256, q / 256 % 256, q / 65536 % 256, q / 16777216 % 256, q / 4294967296 % 256, q / 1099511627776 % 256, q / 281474976710656] := by
  have e : (q * 256 + x) / 256 = q := by rw [Int.add_comm, Int.add_mul_ediv_right _ _ (by decide), Int.ediv_eq_zero_of_lt x0 x1, Int.zero_add]
  have e0 : (q * 256 + x) % 256 = x := by rw [Int.add_comm, Int.add_mul_emod_self_right]; exact Int.emod_eq_of_lt x0 x1
  have d : ∀ {b c : Int}, 256 * b = c → (q * 256 + x) / c = q / b := fun h => by rw [← div2 _ (by decide) h, e]
  simp only [le8]
  rw [e0, e, d (show (256 : Int) * 256 = 65536 from rfl), d (show (256 : Int) * 65536 = 16777216 from rfl), d (show (256 : Int) * 16777216 = 4294967296 from rfl), d (show (256 : Int) * 4294967296 = 1099511627776 from rfl), d (show (256 : Int) * 1099511627776 = 281474976710656 from rfl), d (show (256 : Int) * 281474976710656 = 72057594037927936 from rfl)]
set_option maxHeartbeats 1000000 in
theorem pack_tag_c {w : World} {mean : ExcName → Option Value} {mg mb : Str → Option Value} {dp un : Nat} {gd : Option (List Code)} {cn : Str} {cs : Scope} {a : Addr} {ccd : Value} {cl : List (Str × Addr)} {outer : List Env} {A₀ : Around} {base h₀ : Heap} {L : Addr} {m : Str → Option Value} {s : Shared} {Q E : Value → Shared → Prop} {news : List (Addr × Obj)} {q k : Int} {t u : Tok}
  (B : Below A₀ base outer h₀) (F : Fr h₀ L s.heap m) (X : (Mine.hd.heap_39 w.params).In h₀) (N : News h₀ L s.heap news) (T : Top Mine.view (looseW Mine.view []) mean mg mb h₀) (hk : cs.kind = .function)
  (h0 : 0 ≤ q)
  (h1 : q ≤ 72057594037927935)
  (h2 : k = 0 ∨ k = 1)
  (hd : dp + 1 < recursionLimit) (hu : un + 8 < cLine)
  (hret : ∀ t' (h' : Heap) (tk' : Nat), Fr h₀ L h' m → News h₀ L h' news → Q (.int (q * 256 + k) t') { s with heap := h', toks := tk' }) :
  wpAny (model Challenge.rw_xw0260_01.row.prog w) (ktrTop dp un gd cn cs L a ccd cl outer) (call (.ref 110) [.int q t, .int k u]) Q E s := by
  revert X; k_fill; intro X
  refine wpAny_call ?_
  k_dflt cell_enter
  k_steps
  all_goals first | (exfalso; omega) | exact hret _ _ _ (by assumption) (by assumption)
theorem lines_11 : True := by
  k_with "m call ref" => (k_here; (with_reducible show wpAny _ _ (call (Value.ref 110) [Value.int _ _, Value.int _ _]) _ _ _); k_dflt (refine' pack_tag_c ?z9B ?z9F ?z9X ?z9N ?z9T ?z9hk ?z9hh0 ?z9hh1 ?z9hh2 ?z9hd ?z9hu ?_; (case z9B => k_asm); (case z9F => k_asm); (case z9X => k_asm); (case z9N => k_asm); (case z9T => k_asm); (case z9hk => first | exact rfl | assumption); (case z9hh0 => first | omega | kba_size | l_fact); (case z9hh1 => first | omega | kba_size | l_fact); (case z9hh2 => first | omega | kba_size | l_fact); (case z9hd => ktr_room); (case z9hu => ktr_units); k_whole); intro r0Z hZ tkZ  FZ NZ; (try dsimp only); (try k_sweep); walk_say "BY pack_tag_c")
  trivial
set_option maxHeartbeats 1000000 in
theorem pf32 {w : World} {mean : ExcName → Option Value} {mg mb : Str → Option Value} {dp un : Nat} {gd : Option (List Code)} {cn : Str} {cs : Scope} {a : Addr} {ccd : Value} {cl : List (Str × Addr)} {outer : List Env} {A₀ : Around} {base h₀ : Heap} {L : Addr} {m : Str → Option Value} {s : Shared} {Q E : Value → Shared → Prop} {news : List (Addr × Obj)} {n : Int} {t : Tok}
  (B : Below A₀ base outer h₀) (F : Fr h₀ L s.heap m) (X : (Mine.hd.heap_39 w.params).In h₀) (N : News h₀ L s.heap news) (T : Top Mine.view (looseW Mine.view []) mean mg mb h₀) (hk : cs.kind = .function)
  (h0 : 0 ≤ n)
  (h1 : n < 4294967296)
  (hd : dp + 1 < recursionLimit) (hu : un + 8 < cLine)
  (hret : ∀ b' t' (h' : Heap) (tk' : Nat), KBw.bInts b' = le4 n → Fr h₀ L h' m → News h₀ L h' news → Q (.bytes b' t') { s with heap := h', toks := tk' }) :
  wpAny (model Challenge.rw_xw0260_01.row.prog w) (ktrTop dp un gd cn cs L a ccd cl outer) (call (.ref 82) [.int n t]) Q E s := by
  revert X; k_fill; intro X
  refine wpAny_call ?_
  k_dflt cell_enter
  k_steps
  all_goals exact hret _ _ _ _ (le4_make h0 h1) (by assumption) (drop1 (by assumption))
theorem lines_12 : True := by
  k_with "m call ref" => (k_here; (with_reducible show wpAny _ _ (call (Value.ref 82) [Value.int _ _]) _ _ _); k_dflt (refine' pf32 ?z9B ?z9F ?z9X ?z9N ?z9T ?z9hk ?z9hh0 ?z9hh1 ?z9hd ?z9hu ?_; (case z9B => k_asm); (case z9F => k_asm); (case z9X => k_asm); (case z9N => k_asm); (case z9T => k_asm); (case z9hk => first | exact rfl | assumption); (case z9hh0 => first | omega | kba_size | l_fact); (case z9hh1 => first | omega | kba_size | l_fact); (case z9hd => ktr_room); (case z9hu => ktr_units); k_whole); intro r0Z r1Z hZ tkZ hR0Z FZ NZ; (try dsimp only); (try k_sweep); walk_say "BY pf32")
  trivial
set_option maxHeartbeats 1000000 in
theorem pf64 {w : World} {mean : ExcName → Option Value} {mg mb : Str → Option Value} {dp un : Nat} {gd : Option (List Code)} {cn : Str} {cs : Scope} {a : Addr} {ccd : Value} {cl : List (Str × Addr)} {outer : List Env} {A₀ : Around} {base h₀ : Heap} {L : Addr} {m : Str → Option Value} {s : Shared} {Q E : Value → Shared → Prop} {news : List (Addr × Obj)} {n : Int} {t : Tok}
  (B : Below A₀ base outer h₀) (F : Fr h₀ L s.heap m) (X : (Mine.hd.heap_39 w.params).In h₀) (N : News h₀ L s.heap news) (T : Top Mine.view (looseW Mine.view []) mean mg mb h₀) (hk : cs.kind = .function)
  (h0 : 0 ≤ n)
  (h1 : n < 18446744073709551616)
  (hd : dp + 2 < recursionLimit) (hu : un + 16 < cLine)
  (hret : ∀ b' t' (h' : Heap) (tk' : Nat), KBw.bInts b' = le8 n → Fr h₀ L h' m → News h₀ L h' news → Q (.bytes b' t') { s with heap := h', toks := tk' }) :
  wpAny (model Challenge.rw_xw0260_01.row.prog w) (ktrTop dp un gd cn cs L a ccd cl outer) (call (.ref 89) [.int n t]) Q E s := by
  revert X; k_fill; intro X
  refine wpAny_call ?_
  k_dflt cell_enter
  k_steps
  all_goals first | (exfalso; omega) | exact hret _ _ _ _ (by rw [← le8_two]; assumption) (by assumption) (by assumption)
theorem lines_13 : True := by
  k_with "m call ref" => (k_here; (with_reducible show wpAny _ _ (call (Value.ref 89) [Value.int _ _]) _ _ _); k_dflt (refine' pf64 ?z9B ?z9F ?z9X ?z9N ?z9T ?z9hk ?z9hh0 ?z9hh1 ?z9hd ?z9hu ?_; (case z9B => k_asm); (case z9F => k_asm); (case z9X => k_asm); (case z9N => k_asm); (case z9T => k_asm); (case z9hk => first | exact rfl | assumption); (case z9hh0 => first | omega | kba_size | l_fact); (case z9hh1 => first | omega | kba_size | l_fact); (case z9hd => ktr_room); (case z9hu => ktr_units); k_whole); intro r0Z r1Z hZ tkZ hR0Z FZ NZ; (try dsimp only); (try k_sweep); walk_say "BY pf64")
  trivial
set_option maxHeartbeats 1000000 in
theorem make_ikey_bytes {w : World} {mean : ExcName → Option Value} {mg mb : Str → Option Value} {dp un : Nat} {gd : Option (List Code)} {cn : Str} {cs : Scope} {a : Addr} {ccd : Value} {cl : List (Str × Addr)} {outer : List Env} {A₀ : Around} {base h₀ : Heap} {L : Addr} {m : Str → Option Value} {s : Shared} {Q E : Value → Shared → Prop} {news : List (Addr × Obj)} {b : Array UInt8} {ks : List Int} {t : Tok} {q k : Int} {u v : Tok}
  (B : Below A₀ base outer h₀) (F : Fr h₀ L s.heap m) (X : (Mine.hd.heap_39 w.params).In h₀) (N : News h₀ L s.heap news) (T : Top Mine.view (looseW Mine.view []) mean mg mb h₀) (hk : cs.kind = .function)
  (hb : KBw.bInts b = ks)
  (hz : ks.length ≤ 900)
  (h0 : 0 ≤ q)
  (h1 : q ≤ 72057594037927935)
  (h2 : k = 0 ∨ k = 1)
  (hd : dp + 3 < recursionLimit) (hu : un + 24 < cLine)
  (hret : ∀ b' t' (h' : Heap) (tk' : Nat), KBw.bInts b' = ks ++ le8 (q * 256 + k) → Fr h₀ L h' m → News h₀ L h' news → Q (.bytes b' t') { s with heap := h', toks := tk' }) :
  wpAny (model Challenge.rw_xw0260_01.row.prog w) (ktrTop dp un gd cn cs L a ccd cl outer) (call (.ref 117) [.bytes b t, .int q u, .int k v]) Q E s := by
  revert X; k_fill; intro X
  refine wpAny_call ?_
  k_dflt cell_enter
  k_steps
  all_goals exact hret _ _ _ _ (by assumption) (by assumption) (by assumption)
theorem lines_14 : True := by
  k_with "m call ref" => (k_here; (with_reducible show wpAny _ _ (call (Value.ref 117) [Value.bytes _ _, Value.int _ _, Value.int _ _]) _ _ _); k_dflt (refine' make_ikey_bytes ?z9B ?z9F ?z9X ?z9N ?z9T ?z9hk ?z9hhb ?z9hhz ?z9hh0 ?z9hh1 ?z9hh2 ?z9hd ?z9hu ?_; (case z9B => k_asm); (case z9F => k_asm); (case z9X => k_asm); (case z9N => k_asm); (case z9T => k_asm); (case z9hk => first | exact rfl | assumption); (case z9hhb => kba_ints); (case z9hhz => first | omega | kba_size | l_fact); (case z9hh0 => first | omega | kba_size | l_fact); (case z9hh1 => first | omega | kba_size | l_fact); (case z9hh2 => first | omega | kba_size | l_fact); (case z9hd => ktr_room); (case z9hu => ktr_units); k_whole); intro r0Z r1Z hZ tkZ hR0Z FZ NZ; (try dsimp only); (try k_sweep); walk_say "BY make_ikey_bytes")
  trivial
set_option maxHeartbeats 1000000 in
theorem make_ikey_ba {w : World} {mean : ExcName → Option Value} {mg mb : Str → Option Value} {dp un : Nat} {gd : Option (List Code)} {cn : Str} {cs : Scope} {a : Addr} {ccd : Value} {cl : List (Str × Addr)} {outer : List Env} {A₀ : Around} {base h₀ : Heap} {L : Addr} {m : Str → Option Value} {s : Shared} {Q E : Value → Shared → Prop} {news : List (Addr × Obj)} {x : Addr} {b : Array UInt8} {ks : List Int} {q k : Int} {u v : Tok}
  (B : Below A₀ base outer h₀) (F : Fr h₀ L s.heap m) (X : (Mine.hd.heap_39 w.params).In h₀) (N : News h₀ L s.heap news) (T : Top Mine.view (looseW Mine.view []) mean mg mb h₀) (hk : cs.kind = .function)
  (hx : (x, baObj b) ∈ news)
  (hb : KBw.bInts b = ks)
  (hz : ks.length ≤ 900)
  (h0 : 0 ≤ q)
  (h1 : q ≤ 72057594037927935)
  (h2 : k = 0 ∨ k = 1)
  (hd : dp + 3 < recursionLimit) (hu : un + 24 < cLine)
  (hret : ∀ b' t' (h' : Heap) (tk' : Nat), KBw.bInts b' = ks ++ le8 (q * 256 + k) → Fr h₀ L h' m → News h₀ L h' news → Q (.bytes b' t') { s with heap := h', toks := tk' }) :
  wpAny (model Challenge.rw_xw0260_01.row.prog w) (ktrTop dp un gd cn cs L a ccd cl outer) (call (.ref 117) [.ref x, .int q u, .int k v]) Q E s := by
  revert X; k_fill; intro X
  refine wpAny_call ?_
  k_dflt cell_enter
  k_steps
  all_goals exact hret _ _ _ _ (by assumption) (by assumption) (by assumption)
theorem lines_15 : True := by
  k_with "m call ref" => (k_here; (with_reducible show wpAny _ _ (call (Value.ref 117) [Value.ref _, Value.int _ _, Value.int _ _]) _ _ _); k_dflt (refine' make_ikey_ba ?z9B ?z9F ?z9X ?z9N ?z9T ?z9hk ?z9hhx ?z9hhb ?z9hhz ?z9hh0 ?z9hh1 ?z9hh2 ?z9hd ?z9hu ?_; (case z9B => k_asm); (case z9F => k_asm); (case z9X => k_asm); (case z9N => k_asm); (case z9T => k_asm); (case z9hk => first | exact rfl | assumption); (case z9hhx => k_mem); (case z9hhb => kba_ints); (case z9hhz => first | omega | kba_size | l_fact); (case z9hh0 => first | omega | kba_size | l_fact); (case z9hh1 => first | omega | kba_size | l_fact); (case z9hh2 => first | omega | kba_size | l_fact); (case z9hd => ktr_room); (case z9hu => ktr_units); k_whole); intro r0Z r1Z hZ tkZ hR0Z FZ NZ; (try dsimp only); (try k_sweep); walk_say "BY make_ikey_ba")
  trivial

/-- -1, 0, 1 -/
def sg : Ordering → Int
  | .lt => -1
  | .eq => 0
  | .gt => 1
theorem sg_lt {o : Ordering} (h : (o == .lt) = true) : (-1 : Int) = sg o := by cases o <;> first | rfl | cases h
theorem sg_gt {o : Ordering} (h : (o == .gt) = true) : (1 : Int) = sg o := by cases o <;> first | rfl | cases h
theorem sg_eq {o : Ordering} (h : (o == .lt) = false) (h' : (o == .gt) = false) : (0 : Int) = sg o := by cases o <;> first | rfl | exact absurd h (by decide) | exact absurd h' (by decide)
theorem order_swap : ∀ l r : List UInt8, Builtin.Bytes.order r l = (Builtin.Bytes.order l r).swap
  | [], [] => rfl
  | [], _ :: _ => rfl
  | _ :: _, [] => rfl
  | x :: l, y :: r => by
    simp only [Builtin.Bytes.order]
    by_cases h1 : x < y
    · have h2 : ¬ y < x := fun q => UInt8.lt_asymm h1 q
      simp [h1, h2]
    · by_cases h2 : y < x
      · simp [h1, h2]
      · simp [h1, h2, order_swap l r]
theorem ordB_swap (b c : Array UInt8) : ordB c b = (ordB b c).swap := order_swap _ _
theorem ordB_self (b : Array UInt8) : ordB b b = .eq := by
  have h := ordB_swap b b
  cases hb : ordB b b <;> rw [hb] at h <;> first | rfl | cases h
theorem side_gt {b c : Array UInt8} (h : (ordB c b == .lt) = true) : (1 : Int) = sg (ordB b c) := by
  rw [ordB_swap b c] at h
  cases hb : ordB b c <;> rw [hb] at h <;> first | rfl | cases h
theorem sideT_gt {b c : Array UInt8} {q k q2 k2 : Int} (h : (ordT c q2 k2 b q k == .lt) = true) : (1 : Int) = sg (ordT b q k c q2 k2) := by
  rw [ordT_swap b c q k q2 k2 (ordB_swap b c)] at h
  cases hb : ordT b q k c q2 k2 <;> rw [hb] at h <;> first | rfl | cases h
theorem sideT_eq {b c : Array UInt8} {q k q2 k2 : Int} (h : (ordT b q k c q2 k2 == .lt) = false) (h' : (ordT c q2 k2 b q k == .lt) = false) : (0 : Int) = sg (ordT b q k c q2 k2) := by
  rw [ordT_swap b c q k q2 k2 (ordB_swap b c)] at h'
  cases hb : ordT b q k c q2 k2 <;> rw [hb] at h h' <;> first | rfl | exact absurd h (by decide) | exact absurd h' (by decide)
theorem side_eq {b c : Array UInt8} (h : (ordB b c == .lt) = false) (h' : (ordB c b == .lt) = false) : (0 : Int) = sg (ordB b c) := by
  rw [ordB_swap b c] at h'
  cases hb : ordB b c <;> rw [hb] at h h' <;> first | rfl | exact absurd h (by decide) | exact absurd h' (by decide)
set_option maxHeartbeats 1000000 in
theorem cmp_plain {w : World} {mean : ExcName → Option Value} {mg mb : Str → Option Value} {dp un : Nat} {gd : Option (List Code)} {cn : Str} {cs : Scope} {a : Addr} {ccd : Value} {cl : List (Str × Addr)} {outer : List Env} {A₀ : Around} {base h₀ : Heap} {L : Addr} {m : Str → Option Value} {s : Shared} {Q E : Value → Shared → Prop} {news : List (Addr × Obj)} {b c : Array UInt8} {t u : Tok} {x : Addr}
  (B : Below A₀ base outer h₀) (F : Fr h₀ L s.heap m) (X : (Mine.hd.heap_39 w.params).In h₀) (N : News h₀ L s.heap news) (T : Top Mine.view (looseW Mine.view []) mean mg mb h₀) (hk : cs.kind = .function)
  
  (hd : dp + 1 < recursionLimit) (hu : un + 8 < cLine)
  (hret : ∀ t' (h' : Heap) (tk' : Nat), Fr h₀ L h' m → News h₀ L h' news → Q (.int (sg (ordB b c)) t') { s with heap := h', toks := tk' }) :
  wpAny (model Challenge.rw_xw0260_01.row.prog w) (ktrTop dp un gd cn cs L a ccd cl outer) (call (.ref 152) [.ref x, .bytes b t, .bytes c u]) Q E s := by
  revert X; k_fill; intro X
  refine wpAny_call ?_
  k_dflt cell_enter
  k_steps
  all_goals (refine cb_retI hret ?_ (by assumption) (by assumption); first | exact sg_lt (by assumption) | exact sg_gt (by assumption) | exact sg_eq (by assumption) (by assumption) | exact side_gt (by assumption) | exact side_eq (by assumption) (by assumption))
theorem lines_16 : True := by
  k_with "m call ref" => (k_here; (with_reducible show wpAny _ _ (call (Value.ref 152) [Value.ref _, Value.bytes _ _, Value.bytes _ _]) _ _ _); k_dflt (refine' cmp_plain ?z9B ?z9F ?z9X ?z9N ?z9T ?z9hk  ?z9hd ?z9hu ?_; (case z9B => k_asm); (case z9F => k_asm); (case z9X => k_asm); (case z9N => k_asm); (case z9T => k_asm); (case z9hk => first | exact rfl | assumption);  (case z9hd => ktr_room); (case z9hu => ktr_units); k_whole); intro r0Z hZ tkZ  FZ NZ; (try dsimp only); (try k_sweep); walk_say "BY cmp_plain")
  trivial
set_option maxHeartbeats 1000000 in
theorem side_bytes {w : World} {mean : ExcName → Option Value} {mg mb : Str → Option Value} {dp un : Nat} {gd : Option (List Code)} {cn : Str} {cs : Scope} {a : Addr} {ccd : Value} {cl : List (Str × Addr)} {outer : List Env} {A₀ : Around} {base h₀ : Heap} {L : Addr} {m : Str → Option Value} {s : Shared} {Q E : Value → Shared → Prop} {news : List (Addr × Obj)} {b c : Array UInt8} {t u : Tok}
  (B : Below A₀ base outer h₀) (F : Fr h₀ L s.heap m) (X : (Mine.hd.heap_39 w.params).In h₀) (N : News h₀ L s.heap news) (T : Top Mine.view (looseW Mine.view []) mean mg mb h₀) (hk : cs.kind = .function)
  
  (hd : dp + 1 < recursionLimit) (hu : un + 8 < cLine)
  (hret : ∀ t' (h' : Heap) (tk' : Nat), Fr h₀ L h' m → News h₀ L h' news → Q (.int (sg (ordB b c)) t') { s with heap := h', toks := tk' }) :
  wpAny (model Challenge.rw_xw0260_01.row.prog w) (ktrTop dp un gd cn cs L a ccd cl outer) (call (.ref 286) [.bytes b t, .bytes c u]) Q E s := by
  revert X; k_fill; intro X
  refine wpAny_call ?_
  k_dflt cell_enter
  k_steps
  all_goals (refine cb_retI hret ?_ (by assumption) (by assumption); first | exact sg_lt (by assumption) | exact sg_gt (by assumption) | exact sg_eq (by assumption) (by assumption) | exact side_gt (by assumption) | exact side_eq (by assumption) (by assumption))
theorem lines_17 : True := by
  k_with "m call ref" => (k_here; (with_reducible show wpAny _ _ (call (Value.ref 286) [Value.bytes _ _, Value.bytes _ _]) _ _ _); k_dflt (refine' side_bytes ?z9B ?z9F ?z9X ?z9N ?z9T ?z9hk  ?z9hd ?z9hu ?_; (case z9B => k_asm); (case z9F => k_asm); (case z9X => k_asm); (case z9N => k_asm); (case z9T => k_asm); (case z9hk => first | exact rfl | assumption);  (case z9hd => ktr_room); (case z9hu => ktr_units); k_whole); intro r0Z hZ tkZ  FZ NZ; (try dsimp only); (try k_sweep); walk_say "BY side_bytes")
  trivial
set_option maxHeartbeats 1000000 in
theorem sep_bytes {w : World} {mean : ExcName → Option Value} {mg mb : Str → Option Value} {dp un : Nat} {gd : Option (List Code)} {cn : Str} {cs : Scope} {a : Addr} {ccd : Value} {cl : List (Str × Addr)} {outer : List Env} {A₀ : Around} {base h₀ : Heap} {L : Addr} {m : Str → Option Value} {s : Shared} {Q E : Value → Shared → Prop} {news : List (Addr × Obj)} {b c : Array UInt8} {t u : Tok} {x : Addr}
  (B : Below A₀ base outer h₀) (F : Fr h₀ L s.heap m) (X : (Mine.hd.heap_39 w.params).In h₀) (N : News h₀ L s.heap news) (T : Top Mine.view (looseW Mine.view []) mean mg mb h₀) (hk : cs.kind = .function)
  
  (hd : dp + 1 < recursionLimit) (hu : un + 8 < cLine)
  (hret : ∀ t' (h' : Heap) (tk' : Nat), Fr h₀ L h' m → News h₀ L h' news → Q (.bytes b t') { s with heap := h', toks := tk' }) :
  wpAny (model Challenge.rw_xw0260_01.row.prog w) (ktrTop dp un gd cn cs L a ccd cl outer) (call (.ref 159) [.ref x, .bytes b t, .bytes c u]) Q E s := by
  revert X; k_fill; intro X
  refine wpAny_call ?_
  k_dflt cell_enter
  k_steps
  all_goals exact hret _ _ _ (by assumption) (by assumption)
theorem lines_18 : True := by
  k_with "m call ref" => (k_here; (with_reducible show wpAny _ _ (call (Value.ref 159) [Value.ref _, Value.bytes _ _, Value.bytes _ _]) _ _ _); k_dflt (refine' sep_bytes ?z9B ?z9F ?z9X ?z9N ?z9T ?z9hk  ?z9hd ?z9hu ?_; (case z9B => k_asm); (case z9F => k_asm); (case z9X => k_asm); (case z9N => k_asm); (case z9T => k_asm); (case z9hk => first | exact rfl | assumption);  (case z9hd => ktr_room); (case z9hu => ktr_units); k_whole); intro r0Z hZ tkZ  FZ NZ; (try dsimp only); (try k_sweep); walk_say "BY sep_bytes")
  trivial
set_option maxHeartbeats 1000000 in
theorem sep_ba {w : World} {mean : ExcName → Option Value} {mg mb : Str → Option Value} {dp un : Nat} {gd : Option (List Code)} {cn : Str} {cs : Scope} {a : Addr} {ccd : Value} {cl : List (Str × Addr)} {outer : List Env} {A₀ : Around} {base h₀ : Heap} {L : Addr} {m : Str → Option Value} {s : Shared} {Q E : Value → Shared → Prop} {news : List (Addr × Obj)} {b c : Array UInt8} {ks : List Int} {x y : Addr} {u : Tok}
  (B : Below A₀ base outer h₀) (F : Fr h₀ L s.heap m) (X : (Mine.hd.heap_39 w.params).In h₀) (N : News h₀ L s.heap news) (T : Top Mine.view (looseW Mine.view []) mean mg mb h₀) (hk : cs.kind = .function)
  (hx : (y, baObj b) ∈ news)
  (hb : KBw.bInts b = ks)
  (hz : ks.length ≤ 1000)
  (hd : dp + 1 < recursionLimit) (hu : un + 8 < cLine)
  (hret : ∀ t' (h' : Heap) (tk' : Nat), Fr h₀ L h' m → News h₀ L h' news → Q (.bytes b t') { s with heap := h', toks := tk' }) :
  wpAny (model Challenge.rw_xw0260_01.row.prog w) (ktrTop dp un gd cn cs L a ccd cl outer) (call (.ref 159) [.ref x, .ref y, .bytes c u]) Q E s := by
  revert X; k_fill; intro X
  refine wpAny_call ?_
  k_dflt cell_enter
  k_steps
  all_goals exact hret _ _ _ (by assumption) (by assumption)
theorem lines_19 : True := by
  k_with "m call ref" => (k_here; (with_reducible show wpAny _ _ (call (Value.ref 159) [Value.ref _, Value.ref _, Value.bytes _ _]) _ _ _); k_dflt (refine' sep_ba ?z9B ?z9F ?z9X ?z9N ?z9T ?z9hk ?z9hhx ?z9hhb ?z9hhz ?z9hd ?z9hu ?_; (case z9B => k_asm); (case z9F => k_asm); (case z9X => k_asm); (case z9N => k_asm); (case z9T => k_asm); (case z9hk => first | exact rfl | assumption); (case z9hhx => k_mem); (case z9hhb => kba_ints); (case z9hhz => first | omega | kba_size | l_fact); (case z9hd => ktr_room); (case z9hu => ktr_units); k_whole); intro r0Z hZ tkZ  FZ NZ; (try dsimp only); (try k_sweep); walk_say "BY sep_ba")
  trivial
set_option maxHeartbeats 1000000 in
theorem succ_ba {w : World} {mean : ExcName → Option Value} {mg mb : Str → Option Value} {dp un : Nat} {gd : Option (List Code)} {cn : Str} {cs : Scope} {a : Addr} {ccd : Value} {cl : List (Str × Addr)} {outer : List Env} {A₀ : Around} {base h₀ : Heap} {L : Addr} {m : Str → Option Value} {s : Shared} {Q E : Value → Shared → Prop} {news : List (Addr × Obj)} {b : Array UInt8} {ks : List Int} {x y : Addr}
  (B : Below A₀ base outer h₀) (F : Fr h₀ L s.heap m) (X : (Mine.hd.heap_39 w.params).In h₀) (N : News h₀ L s.heap news) (T : Top Mine.view (looseW Mine.view []) mean mg mb h₀) (hk : cs.kind = .function)
  (hx : (y, baObj b) ∈ news)
  (hb : KBw.bInts b = ks)
  (hz : ks.length ≤ 1000)
  (hd : dp + 1 < recursionLimit) (hu : un + 8 < cLine)
  (hret : ∀ t' (h' : Heap) (tk' : Nat), Fr h₀ L h' m → News h₀ L h' news → Q (.bytes b t') { s with heap := h', toks := tk' }) :
  wpAny (model Challenge.rw_xw0260_01.row.prog w) (ktrTop dp un gd cn cs L a ccd cl outer) (call (.ref 166) [.ref x, .ref y]) Q E s := by
  revert X; k_fill; intro X
  refine wpAny_call ?_
  k_dflt cell_enter
  k_steps
  all_goals exact hret _ _ _ (by assumption) (by assumption)
theorem lines_20 : True := by
  k_with "m call ref" => (k_here; (with_reducible show wpAny _ _ (call (Value.ref 166) [Value.ref _, Value.ref _]) _ _ _); k_dflt (refine' succ_ba ?z9B ?z9F ?z9X ?z9N ?z9T ?z9hk ?z9hhx ?z9hhb ?z9hhz ?z9hd ?z9hu ?_; (case z9B => k_asm); (case z9F => k_asm); (case z9X => k_asm); (case z9N => k_asm); (case z9T => k_asm); (case z9hk => first | exact rfl | assumption); (case z9hhx => k_mem); (case z9hhb => kba_ints); (case z9hhz => first | omega | kba_size | l_fact); (case z9hd => ktr_room); (case z9hu => ktr_units); k_whole); intro r0Z hZ tkZ  FZ NZ; (try dsimp only); (try k_sweep); walk_say "BY succ_ba")
  trivial
set_option maxHeartbeats 1000000 in
theorem side_tup {w : World} {mean : ExcName → Option Value} {mg mb : Str → Option Value} {dp un : Nat} {gd : Option (List Code)} {cn : Str} {cs : Scope} {a : Addr} {ccd : Value} {cl : List (Str × Addr)} {outer : List Env} {A₀ : Around} {base h₀ : Heap} {L : Addr} {m : Str → Option Value} {s : Shared} {Q E : Value → Shared → Prop} {news : List (Addr × Obj)} {b c : Array UInt8} {q k q2 k2 : Int} {x y : Addr} {t1 t2 t3 t4 t5 t6 : Tok}
  (B : Below A₀ base outer h₀) (F : Fr h₀ L s.heap m) (X : (Mine.hd.heap_39 w.params).In h₀) (N : News h₀ L s.heap news) (T : Top Mine.view (looseW Mine.view []) mean mg mb h₀) (hk : cs.kind = .function)
  (hx : (x, tripleObj b t1 q t2 k t3) ∈ news)
  (hy : (y, tripleObj c t4 q2 t5 k2 t6) ∈ news)
  (hd : dp + 1 < recursionLimit) (hu : un + 8 < cLine)
  (hret : ∀ t' (h' : Heap) (tk' : Nat), Fr h₀ L h' m → News h₀ L h' news → Q (.int (sg (ordT b q k c q2 k2)) t') { s with heap := h', toks := tk' }) :
  wpAny (model Challenge.rw_xw0260_01.row.prog w) (ktrTop dp un gd cn cs L a ccd cl outer) (call (.ref 286) [.ref x, .ref y]) Q E s := by
  revert X; k_fill; intro X
  refine wpAny_call ?_
  k_dflt cell_enter
  k_steps
  all_goals (refine cb_retI hret ?_ (by assumption) (by assumption); first | exact sg_lt (by assumption) | exact sideT_gt (by assumption) | exact sideT_eq (by assumption) (by assumption))
theorem lines_21 : True := by
  k_with "m call ref" => (k_here; (with_reducible show wpAny _ _ (call (Value.ref 286) [Value.ref _, Value.ref _]) _ _ _); k_dflt (refine' side_tup ?z9B ?z9F ?z9X ?z9N ?z9T ?z9hk ?z9hhx ?z9hhy ?z9hd ?z9hu ?_; (case z9B => k_asm); (case z9F => k_asm); (case z9X => k_asm); (case z9N => k_asm); (case z9T => k_asm); (case z9hk => first | exact rfl | assumption); (case z9hhx => k_mem); (case z9hhy => k_mem); (case z9hd => ktr_room); (case z9hu => ktr_units); k_whole); intro r0Z hZ tkZ  FZ NZ; (try dsimp only); (try k_sweep); walk_say "BY side_tup")
  trivial

theorem getD_b {nums : List Int} (h : ∀ n ∈ nums, 0 ≤ n ∧ n < 999983) (j : Nat) : 0 ≤ nums.getD j 0 ∧ nums.getD j 0 < 999983 := by
  rw [List.getD_eq_getElem?_getD]
  cases hj : nums[j]? with
  | none => decide
  | some k => exact h k (List.mem_of_getElem? hj)
def NumsOk (nums : List Int) : Prop := 0 < nums.length ∧ nums.length ≤ 8 ∧ ∀ n ∈ nums, 0 ≤ n ∧ n < 999983
set_option maxHeartbeats 1000000 in
theorem draw_c {w : World} {mean : ExcName → Option Value} {mg mb : Str → Option Value} {dp un : Nat} {gd : Option (List Code)} {cn : Str} {cs : Scope} {a : Addr} {ccd : Value} {cl : List (Str × Addr)} {outer : List Env} {A₀ : Around} {base h₀ : Heap} {L : Addr} {m : Str → Option Value} {s : Shared} {Q E : Value → Shared → Prop} {news : List (Addr × Obj)} {x : Addr} {vs : List Value} {nums : List Int} {e : Nat} {i : Int} {t : Tok}
  (B : Below A₀ base outer h₀) (F : Fr h₀ L s.heap m) (X : (Mine.hd.heap_39 w.params).In h₀) (N : News h₀ L s.heap news) (T : Top Mine.view (looseW Mine.view []) mean mg mb h₀) (hk : cs.kind = .function)
  (hx : (x, listOf vs.toArray e) ∈ news)
  (hi : IntsAre vs nums)
  (hp : 0 < nums.length)
  (h8 : nums.length ≤ 8)
  (ha : ∀ n ∈ nums, 0 ≤ n ∧ n < 999983)
  (h0 : 0 ≤ i)
  (h1 : i ≤ 10)
  (hd : dp + 1 < recursionLimit) (hu : un + 8 < cLine)
  (hret : ∀ v t' (h' : Heap) (tk' : Nat), 0 ≤ v → v < 1100000 → Fr h₀ L h' m → News h₀ L h' news → Q (.int v t') { s with heap := h', toks := tk' }) :
  wpAny (model Challenge.rw_xw0260_01.row.prog w) (ktrTop dp un gd cn cs L a ccd cl outer) (call (.ref 274) [.ref x, .int i t]) Q E s := by
  revert X; k_fill; intro X
  refine wpAny_call ?_
  k_dflt cell_enter
  k_steps
  all_goals first | (exfalso; simp only [List.size_toArray] at *; have := IntsAre.length hi; omega) | exact hret _ _ _ _ (by have := getD_b ha (i.fmod ↑vs.toArray.size).toNat; omega) (by have := getD_b ha (i.fmod ↑vs.toArray.size).toNat; omega) (by assumption) (by assumption)
theorem lines_22 : True := by
  k_with "m call ref" => (k_here; (with_reducible show wpAny _ _ (call (Value.ref 274) [Value.ref _, Value.int _ _]) _ _ _); k_dflt (refine' draw_c ?z9B ?z9F ?z9X ?z9N ?z9T ?z9hk ?z9hhx ?z9hhi ?z9hhp ?z9hh8 ?z9hha ?z9hh0 ?z9hh1 ?z9hd ?z9hu ?_; (case z9B => k_asm); (case z9F => k_asm); (case z9X => k_asm); (case z9N => k_asm); (case z9T => k_asm); (case z9hk => first | exact rfl | assumption); (case z9hhx => k_mem); (case z9hhi => assumption); (case z9hhp => first | omega | kba_size | l_fact); (case z9hh8 => first | omega | kba_size | l_fact); (case z9hha => assumption); (case z9hh0 => first | omega | kba_size | l_fact); (case z9hh1 => first | omega | kba_size | l_fact); (case z9hd => ktr_room); (case z9hu => ktr_units); k_whole); intro r0Z r1Z hZ tkZ hR0Z hR1Z FZ NZ; (try dsimp only); (try k_sweep); walk_say "BY draw_c")
  trivial
set_option maxHeartbeats 1000000 in
theorem user_c {w : World} {mean : ExcName → Option Value} {mg mb : Str → Option Value} {dp un : Nat} {gd : Option (List Code)} {cn : Str} {cs : Scope} {a : Addr} {ccd : Value} {cl : List (Str × Addr)} {outer : List Env} {A₀ : Around} {base h₀ : Heap} {L : Addr} {m : Str → Option Value} {s : Shared} {Q E : Value → Shared → Prop} {news : List (Addr × Obj)} {y : Int} {b : Array UInt8} {ks : List Int} {t u : Tok}
  (B : Below A₀ base outer h₀) (F : Fr h₀ L s.heap m) (X : (Mine.hd.heap_39 w.params).In h₀) (N : News h₀ L s.heap news) (T : Top Mine.view (looseW Mine.view []) mean mg mb h₀) (hk : cs.kind = .function)
  (hb : KBw.bInts b = ks)
  (h5 : ks.length ≤ 5)
  (h0 : 0 ≤ y)
  (h1 : y < 1100000)
  (hd : dp + 1 < recursionLimit) (hu : un + 8 < cLine)
  (hret : ∀ b' t' (h' : Heap) (tk' : Nat), (KBw.bInts b').length ≤ 5 → Fr h₀ L h' m → News h₀ L h' news → Q (.bytes b' t') { s with heap := h', toks := tk' }) :
  wpAny (model Challenge.rw_xw0260_01.row.prog w) (ktrTop dp un gd cn cs L a ccd cl outer) (call (.ref 279) [.int y t, .bytes b u]) Q E s := by
  revert X; k_fill; intro X
  refine wpAny_call ?_
  k_dflt (refine' code_defC ?k1 ?k2 ?k3 ?k4 ?k5 ?kA ?kF ?kK ?k6 ?k7 ?k8 ?k9 ?kB ?kD ?_ ?c2 ?c3 ?c4; (case kA => exact rfl); (case kF => exact rfl); (case kK => assumption); (case k1 => k_asm); (case k2 => k_asm); (case k3 => k_asm); (case k4 => k_asm); (case k5 => k_asm); (case k6 => k_is); (case k7 => k_is); (case k8 => ktr_room); (case k9 => exact BindsTo.of_eq rfl); (case kB => exact rfl); (case kD => decide +kernel); (case c2 => exact rfl); (case c3 => exact rfl); (case c4 => exact rfl); k_whole; intro g' L' h' tk' cells' FG' F' N' Y' B' X' T' l1; (try k_lt l1); k_cells Y'; (try simp only [List.cons_append, List.nil_append] at N'); (try dsimp only); (try k_lift B'); (try k_fold))
  k_steps
  · exact hret _ _ _ _ (by rw [hb]; exact h5) (by assumption) (by first | assumption | exact drop1 (by assumption) | exact drop1 (drop1 (by assumption)) | exact drop1 (drop1 (drop1 (by assumption))) | exact drop1 (drop1 (drop1 (drop1 (by assumption)))) | exact drop1 (drop1 (drop1 (drop1 (drop1 (by assumption))))))
  rotate_left
  · rename _ = List.take (clipAt ks.length (y / 4 % 3)) ks => kbcK
    exact hret _ _ _ _ (by rw [kbcK, List.length_take]; omega) (by assumption) (by first | assumption | exact drop1 (by assumption) | exact drop1 (drop1 (by assumption)) | exact drop1 (drop1 (drop1 (by assumption))) | exact drop1 (drop1 (drop1 (drop1 (by assumption)))) | exact drop1 (drop1 (drop1 (drop1 (drop1 (by assumption))))))
  · exact hret _ _ _ _ (by rw [KBa.ints_make (by assumption), List.length_map, rangeKs_length]; omega) (by assumption) (by first | assumption | exact drop1 (by assumption) | exact drop1 (drop1 (by assumption)) | exact drop1 (drop1 (drop1 (by assumption))) | exact drop1 (drop1 (drop1 (drop1 (by assumption)))) | exact drop1 (drop1 (drop1 (drop1 (drop1 (by assumption))))))
  rename _ = List.take (clipAt ks.length 4) ks => kbcK
  exact hret _ _ _ _ (by first | (rename KBw.bInts _ = _ ++ _ => hAdd; rw [hAdd, List.length_append, List.length_take]; simp only [List.length_cons, List.length_nil, clipAt]; omega)) (by assumption) (by first | assumption | exact drop1 (by assumption) | exact drop1 (drop1 (by assumption)) | exact drop1 (drop1 (drop1 (by assumption))) | exact drop1 (drop1 (drop1 (drop1 (by assumption)))) | exact drop1 (drop1 (drop1 (drop1 (drop1 (by assumption))))))
theorem lines_23 : True := by
  k_with "m call ref" => (k_here; (with_reducible show wpAny _ _ (call (Value.ref 279) [Value.int _ _, Value.bytes _ _]) _ _ _); k_dflt (refine' user_c ?z9B ?z9F ?z9X ?z9N ?z9T ?z9hk ?z9hhb ?z9hh5 ?z9hh0 ?z9hh1 ?z9hd ?z9hu ?_; (case z9B => k_asm); (case z9F => k_asm); (case z9X => k_asm); (case z9N => k_asm); (case z9T => k_asm); (case z9hk => first | exact rfl | assumption); (case z9hhb => first | kba_ints | exact rfl); (case z9hh5 => first | omega | kba_size | l_fact); (case z9hh0 => first | omega | kba_size | l_fact); (case z9hh1 => first | omega | kba_size | l_fact); (case z9hd => ktr_room); (case z9hu => ktr_units); k_whole); intro r0Z r1Z hZ tkZ hR0Z FZ NZ; (try dsimp only); (try k_sweep); walk_say "BY user_c")
  trivial

theorem oct7 (q : Int) : List.map (fun k' : Int => if 0 < (256 : Int) ^ k'.toNat ∧ ((256 : Int) ^ k'.toNat).natAbs.log2 < 9000 then q / (256 : Int) ^ k'.toNat % 256 else k') (rangeKs 0 (7 - 0 : Int).toNat) = [q % 256, q / 256 % 256, q / 65536 % 256, q / 16777216 % 256, q / 4294967296 % 256, q / 1099511627776 % 256, q / 281474976710656 % 256] := by
  rw [show rangeKs 0 (7 - 0 : Int).toNat = [0, 1, 2, 3, 4, 5, 6] from by decide]
  simp only [List.map]
  rw [if_pos (by decide +kernel), if_pos (by decide +kernel), if_pos (by decide +kernel), if_pos (by decide +kernel), if_pos (by decide +kernel), if_pos (by decide +kernel), if_pos (by decide +kernel)]
  rw [show (256 : Int) ^ (0 : Int).toNat = 1 from by decide +kernel, show (256 : Int) ^ (1 : Int).toNat = 256 from by decide +kernel, show (256 : Int) ^ (2 : Int).toNat = 65536 from by decide +kernel, show (256 : Int) ^ (3 : Int).toNat = 16777216 from by decide +kernel, show (256 : Int) ^ (4 : Int).toNat = 4294967296 from by decide +kernel, show (256 : Int) ^ (5 : Int).toNat = 1099511627776 from by decide +kernel, show (256 : Int) ^ (6 : Int).toNat = 281474976710656 from by decide +kernel, Int.ediv_one]
theorem oct8 {q k : Int} (h0 : 0 ≤ q) (h1 : q ≤ 72057594037927935) (k0 : 0 ≤ k) (k1 : k ≤ 1) : [k] ++ [q % 256, q / 256 % 256, q / 65536 % 256, q / 16777216 % 256, q / 4294967296 % 256, q / 1099511627776 % 256, q / 281474976710656 % 256] = le8 (q * 256 + k) := by
  rw [le8_cons q k0 (Int.lt_of_le_of_lt k1 (by decide)), Int.emod_eq_of_lt (a := q / 281474976710656) (Int.ediv_nonneg h0 (by decide)) (Int.ediv_lt_of_lt_mul (by decide) (Int.lt_of_le_of_lt h1 (by decide)))]
  rfl
theorem le8_in {n : Int} (h0 : 0 ≤ n) (h1 : n < 18446744073709551616) : KBa.In (le8 n) := by
  intro x hx
  simp only [le8, List.mem_cons, List.not_mem_nil, or_false] at hx
  rcases hx with rfl | rfl | rfl | rfl | rfl | rfl | rfl | rfl
  iterate 7 exact byte_in _
  exact top_in h0 (by decide) (by rfl) h1
set_option maxHeartbeats 1000000 in
theorem octets_c {w : World} {mean : ExcName → Option Value} {mg mb : Str → Option Value} {dp un : Nat} {gd : Option (List Code)} {cn : Str} {cs : Scope} {a : Addr} {ccd : Value} {cl : List (Str × Addr)} {outer : List Env} {A₀ : Around} {base h₀ : Heap} {L : Addr} {m : Str → Option Value} {s : Shared} {Q E : Value → Shared → Prop} {news : List (Addr × Obj)} {q k : Int} {b : Array UInt8} {ks : List Int} {t t₂ u : Tok}
  (B : Below A₀ base outer h₀) (F : Fr h₀ L s.heap m) (X : (Mine.hd.heap_39 w.params).In h₀) (N : News h₀ L s.heap news) (T : Top Mine.view (looseW Mine.view []) mean mg mb h₀) (hk : cs.kind = .function)
  (hb : KBw.bInts b = ks)
  (h5 : ks.length ≤ 5)
  (h0 : 0 ≤ q)
  (h1 : q ≤ 72057594037927935)
  (k0 : 0 ≤ k)
  (k1 : k ≤ 1)
  (hd : dp + 1 < recursionLimit) (hu : un + 8 < cLine)
  (hret : ∀ b' t' (h' : Heap) (tk' : Nat), KBw.bInts b' = ks ++ le8 (q * 256 + k) → Fr h₀ L h' m → News h₀ L h' news → Q (.bytes b' t') { s with heap := h', toks := tk' }) :
  wpAny (model Challenge.rw_xw0260_01.row.prog w) (ktrTop dp un gd cn cs L a ccd cl outer) (call (.ref 291) [.bytes b u, .int q t, .int k t₂]) Q E s := by
  revert X; k_fill; intro X
  refine wpAny_call ?_
  k_dflt (refine' code_defC ?k1 ?k2 ?k3 ?k4 ?k5 ?kA ?kF ?kK ?k6 ?k7 ?k8 ?k9 ?kB ?kD ?_ ?c2 ?c3 ?c4; (case kA => exact rfl); (case kF => exact rfl); (case kK => assumption); (case k1 => k_asm); (case k2 => k_asm); (case k3 => k_asm); (case k4 => k_asm); (case k5 => k_asm); (case k6 => k_is); (case k7 => k_is); (case k8 => ktr_room); (case k9 => exact BindsTo.of_eq rfl); (case kB => exact rfl); (case kD => decide +kernel); (case c2 => exact rfl); (case c3 => exact rfl); (case c4 => exact rfl); k_whole; intro g' L' h' tk' cells' FG' F' N' Y' B' X' T' l1; (try k_lt l1); k_cells Y'; (try simp only [List.cons_append, List.nil_append] at N'); (try dsimp only); (try k_lift B'); (try k_fold))
  k_steps
  rename IntsAre _ ([k] ++ _) => hI9
  rw [oct7, oct8 h0 h1 k0 k1] at hI9
  refine' KBa.make_K ?mF ?mN ?mh ?ml ?mi ?mr ?mz ?_
  case mF => k_asm
  case mN => k_asm
  case ml => is_list
  case mi => exact hI9
  case mr => exact le8_in (by omega) (by omega)
  case mz => rw [le8_length]; omega
  case mh => with_unfolding_all rfl
  intro h' t' k' F' N' hIn9
  k_sweep
  k_steps
  exact hret _ _ _ _ (by assumption) (by assumption) (by first | assumption | exact drop1 (by assumption) | exact drop1 (drop1 (by assumption)) | exact drop1 (drop1 (drop1 (by assumption))) | exact drop1 (drop1 (drop1 (drop1 (by assumption)))) | exact drop1 (drop1 (drop1 (drop1 (drop1 (by assumption))))))
theorem lines_24 : True := by
  k_with "m call ref" => (k_here; (with_reducible show wpAny _ _ (call (Value.ref 291) [Value.bytes _ _, Value.int _ _, Value.int _ _]) _ _ _); k_dflt (refine' octets_c ?z9B ?z9F ?z9X ?z9N ?z9T ?z9hk ?z9hhb ?z9hh5 ?z9hh0 ?z9hh1 ?z9hk0 ?z9hk1 ?z9hd ?z9hu ?_; (case z9B => k_asm); (case z9F => k_asm); (case z9X => k_asm); (case z9N => k_asm); (case z9T => k_asm); (case z9hk => first | exact rfl | assumption); (case z9hhb => first | kba_ints | exact rfl); (case z9hh5 => first | omega | kba_size | l_fact); (case z9hh0 => first | omega | kba_size | l_fact); (case z9hh1 => first | omega | kba_size | l_fact); (case z9hk0 => first | omega | kba_size | l_fact); (case z9hk1 => first | omega | kba_size | l_fact); (case z9hd => ktr_room); (case z9hu => ktr_units); k_whole); intro r0Z r1Z hZ tkZ hR0Z FZ NZ; (try dsimp only); (try k_sweep); walk_say "BY octets_c")
  trivial

set_option maxHeartbeats 1000000 in
theorem pack_bad {w : World} {mean : ExcName → Option Value} {mg mb : Str → Option Value} {dp un : Nat} {gd : Option (List Code)} {cn : Str} {cs : Scope} {a : Addr} {ccd : Value} {cl : List (Str × Addr)} {outer : List Env} {A₀ : Around} {base h₀ : Heap} {L : Addr} {m : Str → Option Value} {s : Shared} {Q E : Value → Shared → Prop} {news : List (Addr × Obj)} {q k : Int} {t t₂ : Tok}
  (B : Below A₀ base outer h₀) (F : Fr h₀ L s.heap m) (X : (Mine.hd.heap_39 w.params).In h₀) (N : News h₀ L s.heap news) (T : Top Mine.view (looseW Mine.view []) mean mg mb h₀) (hk : cs.kind = .function)
  (hq : q.natAbs.log2 < 1920)
  (hk2 : k.natAbs.log2 < 1920)
  (hbad : (q < 0 ∨ 72057594037927935 < q) ∨ (k ≠ 0 ∧ k ≠ 1))
  (hd : dp + 1 < recursionLimit) (hu : un + 8 < cLine)
  (hraise : ∀ e t9 vs9 g9 (h' : Heap) (tk' : Nat), Fr h₀ L g9 m → RaisedS base g9 (envX cn cs L a ccd cl :: outer) e (.ref 73) t9 vs9 news h' → RaisedK base (envX cn cs L a ccd cl :: outer) e (.ref 73) t9 vs9 news h' → g9.UpToSlots h' → E (.ref e) { s with heap := h', toks := tk' }) :
  wpAny (model Challenge.rw_xw0260_01.row.prog w) (ktrTop dp un gd cn cs L a ccd cl outer) (call (.ref 110) [.int q t, .int k t₂]) Q E s := by
  revert X; k_fill; intro X
  have kd0 : KtsDicts [] h₀ := fun b hb => by cases hb
  refine wpAny_call ?_
  k_dflt cell_enter
  k_steps
  all_goals first | (exfalso; omega) | exact hraise _ _ _ _ _ _ (by assumption) (by assumption) (by assumption) (by assumption)
theorem lines_25 : True := by
  k_with "m call ref" => (k_here; (with_reducible show wpAny _ _ (call (Value.ref 110) [Value.int _ _, Value.int _ _]) _ _ _); k_dflt (refine' pack_bad ?z9B ?z9F ?z9X ?z9N ?z9T ?z9hk ?z9hhq ?z9hhk2 ?z9hhbad ?z9hd ?z9hu ?_; (case z9B => k_asm); (case z9F => k_asm); (case z9X => k_asm); (case z9N => k_asm); (case z9T => k_asm); (case z9hk => first | exact rfl | assumption); (case z9hhq => with_reducible assumption); (case z9hhk2 => with_reducible assumption); (case z9hhbad => with_reducible assumption); (case z9hd => ktr_room); (case z9hu => ktr_units); k_whole); intro eZ tZ vsZ gZ hZ tkZ FGZ SZ RZ UZ; (try dsimp only at SZ RZ UZ ⊢); walk_say "BY pack_bad")
  trivial
set_option maxHeartbeats 1000000 in
theorem make_bad {w : World} {mean : ExcName → Option Value} {mg mb : Str → Option Value} {dp un : Nat} {gd : Option (List Code)} {cn : Str} {cs : Scope} {a : Addr} {ccd : Value} {cl : List (Str × Addr)} {outer : List Env} {A₀ : Around} {base h₀ : Heap} {L : Addr} {m : Str → Option Value} {s : Shared} {Q E : Value → Shared → Prop} {news : List (Addr × Obj)} {q k : Int} {b : Array UInt8} {t t₂ u : Tok}
  (B : Below A₀ base outer h₀) (F : Fr h₀ L s.heap m) (X : (Mine.hd.heap_39 w.params).In h₀) (N : News h₀ L s.heap news) (T : Top Mine.view (looseW Mine.view []) mean mg mb h₀) (hk : cs.kind = .function)
  (hq : q.natAbs.log2 < 1920)
  (hk2 : k.natAbs.log2 < 1920)
  (hbad : (q < 0 ∨ 72057594037927935 < q) ∨ (k ≠ 0 ∧ k ≠ 1))
  (hd : dp + 2 < recursionLimit) (hu : un + 16 < cLine)
  (hraise : ∀ e t9 vs9 g9 (h' : Heap) (tk' : Nat), Fr h₀ L g9 m → RaisedS base g9 (envX cn cs L a ccd cl :: outer) e (.ref 73) t9 vs9 news h' → RaisedK base (envX cn cs L a ccd cl :: outer) e (.ref 73) t9 vs9 news h' → g9.UpToSlots h' → E (.ref e) { s with heap := h', toks := tk' }) :
  wpAny (model Challenge.rw_xw0260_01.row.prog w) (ktrTop dp un gd cn cs L a ccd cl outer) (call (.ref 117) [.bytes b u, .int q t, .int k t₂]) Q E s := by
  revert X; k_fill; intro X
  have kd0 : KtsDicts [] h₀ := fun b hb => by cases hb
  refine wpAny_call ?_
  k_dflt cell_enter
  k_steps
  all_goals first | (exfalso; omega) | exact hraise _ _ _ _ _ _ (by assumption) (by assumption) (by assumption) (by assumption)
theorem lines_26 : True := by
  k_with "m call ref" => (k_here; (with_reducible show wpAny _ _ (call (Value.ref 117) [Value.bytes _ _, Value.int _ _, Value.int _ _]) _ _ _); k_dflt (refine' make_bad ?z9B ?z9F ?z9X ?z9N ?z9T ?z9hk ?z9hhq ?z9hhk2 ?z9hhbad ?z9hd ?z9hu ?_; (case z9B => k_asm); (case z9F => k_asm); (case z9X => k_asm); (case z9N => k_asm); (case z9T => k_asm); (case z9hk => first | exact rfl | assumption); (case z9hhq => with_reducible assumption); (case z9hhk2 => with_reducible assumption); (case z9hhbad => with_reducible assumption); (case z9hd => ktr_room); (case z9hu => ktr_units); k_whole); intro eZ tZ vsZ gZ hZ tkZ FGZ SZ RZ UZ; (try dsimp only at SZ RZ UZ ⊢); walk_say "BY make_bad")
  trivial

set_option maxHeartbeats 1000000 in
theorem user_bad {w : World} {mean : ExcName → Option Value} {mg mb : Str → Option Value} {dp un : Nat} {gd : Option (List Code)} {cn : Str} {cs : Scope} {a : Addr} {ccd : Value} {cl : List (Str × Addr)} {outer : List Env} {A₀ : Around} {base h₀ : Heap} {L : Addr} {m : Str → Option Value} {s : Shared} {Q E : Value → Shared → Prop} {news : List (Addr × Obj)} {b : Array UInt8} {u : Tok}
  (B : Below A₀ base outer h₀) (F : Fr h₀ L s.heap m) (X : (Mine.hd.heap_39 w.params).In h₀) (N : News h₀ L s.heap news) (T : Top Mine.view (looseW Mine.view []) mean mg mb h₀) (hk : cs.kind = .function)
  (hz : b.size < 8)
  (hd : dp + 1 < recursionLimit) (hu : un + 8 < cLine)
  (hraise : ∀ e t9 vs9 g9 (h' : Heap) (tk' : Nat), Fr h₀ L g9 m → RaisedS base g9 (envX cn cs L a ccd cl :: outer) e (.ref 49) t9 vs9 news h' → RaisedK base (envX cn cs L a ccd cl :: outer) e (.ref 49) t9 vs9 news h' → g9.UpToSlots h' → E (.ref e) { s with heap := h', toks := tk' }) :
  wpAny (model Challenge.rw_xw0260_01.row.prog w) (ktrTop dp un gd cn cs L a ccd cl outer) (call (.ref 131) [.bytes b u]) Q E s := by
  revert X; k_fill; intro X
  have kd0 : KtsDicts [] h₀ := fun b hb => by cases hb
  refine wpAny_call ?_
  k_dflt cell_enter
  k_steps
  all_goals first | (exfalso; omega) | exact hraise _ _ _ _ _ _ (by assumption) (by assumption) (by assumption) (by assumption)
theorem lines_27 : True := by
  k_with "m call ref" => (k_here; (with_reducible show wpAny _ _ (call (Value.ref 131) [Value.bytes _ _]) _ _ _); k_dflt (refine' user_bad ?z9B ?z9F ?z9X ?z9N ?z9T ?z9hk ?z9hhz ?z9hd ?z9hu ?_; (case z9B => k_asm); (case z9F => k_asm); (case z9X => k_asm); (case z9N => k_asm); (case z9T => k_asm); (case z9hk => first | exact rfl | assumption); (case z9hhz => with_reducible assumption); (case z9hd => ktr_room); (case z9hu => ktr_units); k_whole); intro eZ tZ vsZ gZ hZ tkZ FGZ SZ RZ UZ; (try dsimp only at SZ RZ UZ ⊢); walk_say "BY user_bad")
  trivial
set_option maxHeartbeats 1000000 in
theorem tag_bad {w : World} {mean : ExcName → Option Value} {mg mb : Str → Option Value} {dp un : Nat} {gd : Option (List Code)} {cn : Str} {cs : Scope} {a : Addr} {ccd : Value} {cl : List (Str × Addr)} {outer : List Env} {A₀ : Around} {base h₀ : Heap} {L : Addr} {m : Str → Option Value} {s : Shared} {Q E : Value → Shared → Prop} {news : List (Addr × Obj)} {b : Array UInt8} {u : Tok}
  (B : Below A₀ base outer h₀) (F : Fr h₀ L s.heap m) (X : (Mine.hd.heap_39 w.params).In h₀) (N : News h₀ L s.heap news) (T : Top Mine.view (looseW Mine.view []) mean mg mb h₀) (hk : cs.kind = .function)
  (hz : b.size < 8)
  (hd : dp + 1 < recursionLimit) (hu : un + 8 < cLine)
  (hraise : ∀ e t9 vs9 g9 (h' : Heap) (tk' : Nat), Fr h₀ L g9 m → RaisedS base g9 (envX cn cs L a ccd cl :: outer) e (.ref 49) t9 vs9 news h' → RaisedK base (envX cn cs L a ccd cl :: outer) e (.ref 49) t9 vs9 news h' → g9.UpToSlots h' → E (.ref e) { s with heap := h', toks := tk' }) :
  wpAny (model Challenge.rw_xw0260_01.row.prog w) (ktrTop dp un gd cn cs L a ccd cl outer) (call (.ref 138) [.bytes b u]) Q E s := by
  revert X; k_fill; intro X
  have kd0 : KtsDicts [] h₀ := fun b hb => by cases hb
  refine wpAny_call ?_
  k_dflt cell_enter
  k_steps
  all_goals first | (exfalso; omega) | exact hraise _ _ _ _ _ _ (by assumption) (by assumption) (by assumption) (by assumption)
theorem lines_28 : True := by
  k_with "m call ref" => (k_here; (with_reducible show wpAny _ _ (call (Value.ref 138) [Value.bytes _ _]) _ _ _); k_dflt (refine' tag_bad ?z9B ?z9F ?z9X ?z9N ?z9T ?z9hk ?z9hhz ?z9hd ?z9hu ?_; (case z9B => k_asm); (case z9F => k_asm); (case z9X => k_asm); (case z9N => k_asm); (case z9T => k_asm); (case z9hk => first | exact rfl | assumption); (case z9hhz => with_reducible assumption); (case z9hd => ktr_room); (case z9hu => ktr_units); k_whole); intro eZ tZ vsZ gZ hZ tkZ FGZ SZ RZ UZ; (try dsimp only at SZ RZ UZ ⊢); walk_say "BY tag_bad")
  trivial
set_option maxHeartbeats 1000000 in
theorem split_bad {w : World} {mean : ExcName → Option Value} {mg mb : Str → Option Value} {dp un : Nat} {gd : Option (List Code)} {cn : Str} {cs : Scope} {a : Addr} {ccd : Value} {cl : List (Str × Addr)} {outer : List Env} {A₀ : Around} {base h₀ : Heap} {L : Addr} {m : Str → Option Value} {s : Shared} {Q E : Value → Shared → Prop} {news : List (Addr × Obj)} {b : Array UInt8} {u : Tok}
  (B : Below A₀ base outer h₀) (F : Fr h₀ L s.heap m) (X : (Mine.hd.heap_39 w.params).In h₀) (N : News h₀ L s.heap news) (T : Top Mine.view (looseW Mine.view []) mean mg mb h₀) (hk : cs.kind = .function)
  (hz : b.size < 8)
  (hd : dp + 2 < recursionLimit) (hu : un + 16 < cLine)
  (hraise : ∀ e t9 vs9 g9 (h' : Heap) (tk' : Nat), Fr h₀ L g9 m → RaisedS base g9 (envX cn cs L a ccd cl :: outer) e (.ref 49) t9 vs9 news h' → RaisedK base (envX cn cs L a ccd cl :: outer) e (.ref 49) t9 vs9 news h' → g9.UpToSlots h' → E (.ref e) { s with heap := h', toks := tk' }) :
  wpAny (model Challenge.rw_xw0260_01.row.prog w) (ktrTop dp un gd cn cs L a ccd cl outer) (call (.ref 124) [.bytes b u]) Q E s := by
  revert X; k_fill; intro X
  have kd0 : KtsDicts [] h₀ := fun b hb => by cases hb
  refine wpAny_call ?_
  k_dflt cell_enter
  k_steps
  all_goals first | (exfalso; omega) | exact hraise _ _ _ _ _ _ (by assumption) (by assumption) (by assumption) (by assumption)
theorem lines_29 : True := by
  k_with "m call ref" => (k_here; (with_reducible show wpAny _ _ (call (Value.ref 124) [Value.bytes _ _]) _ _ _); k_dflt (refine' split_bad ?z9B ?z9F ?z9X ?z9N ?z9T ?z9hk ?z9hhz ?z9hd ?z9hu ?_; (case z9B => k_asm); (case z9F => k_asm); (case z9X => k_asm); (case z9N => k_asm); (case z9T => k_asm); (case z9hk => first | exact rfl | assumption); (case z9hhz => with_reducible assumption); (case z9hd => ktr_room); (case z9hu => ktr_units); k_whole); intro eZ tZ vsZ gZ hZ tkZ FGZ SZ RZ UZ; (try dsimp only at SZ RZ UZ ⊢); walk_say "BY split_bad")
  trivial
set_option maxHeartbeats 1000000 in
theorem isucc_bad {w : World} {mean : ExcName → Option Value} {mg mb : Str → Option Value} {dp un : Nat} {gd : Option (List Code)} {cn : Str} {cs : Scope} {a : Addr} {ccd : Value} {cl : List (Str × Addr)} {outer : List Env} {A₀ : Around} {base h₀ : Heap} {L : Addr} {m : Str → Option Value} {s : Shared} {Q E : Value → Shared → Prop} {news : List (Addr × Obj)} {b : Array UInt8} {u : Tok} {xi : Addr}
  (B : Below A₀ base outer h₀) (F : Fr h₀ L s.heap m) (X : (Mine.hd.heap_39 w.params).In h₀) (N : News h₀ L s.heap news) (T : Top Mine.view (looseW Mine.view []) mean mg mb h₀) (hk : cs.kind = .function)
  (hz : b.size < 8)
  (hd : dp + 2 < recursionLimit) (hu : un + 16 < cLine)
  (hraise : ∀ e t9 vs9 g9 (h' : Heap) (tk' : Nat), Fr h₀ L g9 m → RaisedS base g9 (envX cn cs L a ccd cl :: outer) e (.ref 49) t9 vs9 news h' → RaisedK base (envX cn cs L a ccd cl :: outer) e (.ref 49) t9 vs9 news h' → g9.UpToSlots h' → E (.ref e) { s with heap := h', toks := tk' }) :
  wpAny (model Challenge.rw_xw0260_01.row.prog w) (ktrTop dp un gd cn cs L a ccd cl outer) (call (.ref 255) [.ref xi, .bytes b u]) Q E s := by
  revert X; k_fill; intro X
  have kd0 : KtsDicts [] h₀ := fun b hb => by cases hb
  refine wpAny_call ?_
  k_dflt cell_enter
  k_steps
  all_goals first | (exfalso; omega) | exact hraise _ _ _ _ _ _ (by assumption) (by assumption) (by assumption) (by assumption)
theorem lines_30 : True := by
  k_with "m call ref" => (k_here; (with_reducible show wpAny _ _ (call (Value.ref 255) [Value.ref _, Value.bytes _ _]) _ _ _); k_dflt (refine' isucc_bad ?z9B ?z9F ?z9X ?z9N ?z9T ?z9hk ?z9hhz ?z9hd ?z9hu ?_; (case z9B => k_asm); (case z9F => k_asm); (case z9X => k_asm); (case z9N => k_asm); (case z9T => k_asm); (case z9hk => first | exact rfl | assumption); (case z9hhz => with_reducible assumption); (case z9hd => ktr_room); (case z9hu => ktr_units); k_whole); intro eZ tZ vsZ gZ hZ tkZ FGZ SZ RZ UZ; (try dsimp only at SZ RZ UZ ⊢); walk_say "BY isucc_bad")
  trivial
set_option maxHeartbeats 1000000 in
theorem isep_bad {w : World} {mean : ExcName → Option Value} {mg mb : Str → Option Value} {dp un : Nat} {gd : Option (List Code)} {cn : Str} {cs : Scope} {a : Addr} {ccd : Value} {cl : List (Str × Addr)} {outer : List Env} {A₀ : Around} {base h₀ : Heap} {L : Addr} {m : Str → Option Value} {s : Shared} {Q E : Value → Shared → Prop} {news : List (Addr × Obj)} {b : Array UInt8} {u : Tok} {xi : Addr} {v : Value}
  (B : Below A₀ base outer h₀) (F : Fr h₀ L s.heap m) (X : (Mine.hd.heap_39 w.params).In h₀) (N : News h₀ L s.heap news) (T : Top Mine.view (looseW Mine.view []) mean mg mb h₀) (hk : cs.kind = .function)
  (hz : b.size < 8)
  (hd : dp + 2 < recursionLimit) (hu : un + 16 < cLine)
  (hraise : ∀ e t9 vs9 g9 (h' : Heap) (tk' : Nat), Fr h₀ L g9 m → RaisedS base g9 (envX cn cs L a ccd cl :: outer) e (.ref 49) t9 vs9 news h' → RaisedK base (envX cn cs L a ccd cl :: outer) e (.ref 49) t9 vs9 news h' → g9.UpToSlots h' → E (.ref e) { s with heap := h', toks := tk' }) :
  wpAny (model Challenge.rw_xw0260_01.row.prog w) (ktrTop dp un gd cn cs L a ccd cl outer) (call (.ref 248) [.ref xi, .bytes b u, v]) Q E s := by
  revert X; k_fill; intro X
  have kd0 : KtsDicts [] h₀ := fun b hb => by cases hb
  refine wpAny_call ?_
  k_dflt cell_enter
  k_steps
  all_goals first | (exfalso; omega) | exact hraise _ _ _ _ _ _ (by assumption) (by assumption) (by assumption) (by assumption)
theorem lines_31 : True := by
  k_with "m call ref" => (k_here; (with_reducible show wpAny _ _ (call (Value.ref 248) [Value.ref _, Value.bytes _ _, _]) _ _ _); k_dflt (refine' isep_bad ?z9B ?z9F ?z9X ?z9N ?z9T ?z9hk ?z9hhz ?z9hd ?z9hu ?_; (case z9B => k_asm); (case z9F => k_asm); (case z9X => k_asm); (case z9N => k_asm); (case z9T => k_asm); (case z9hk => first | exact rfl | assumption); (case z9hhz => with_reducible assumption); (case z9hd => ktr_room); (case z9hu => ktr_units); k_whole); intro eZ tZ vsZ gZ hZ tkZ FGZ SZ RZ UZ; (try dsimp only at SZ RZ UZ ⊢); walk_say "BY isep_bad")
  trivial

/-- the octets of an internal key -/
structure KeyOf (b ua : Array UInt8) (s k : Int) : Prop where
  oct : KBw.bInts b = KBw.bInts ua ++ le8 (s * 256 + k)
  short : (KBw.bInts ua).length ≤ 5
  s0 : 0 ≤ s
  s1 : s ≤ 72057594037927935
  k0 : 0 ≤ k
  k1 : k ≤ 1
theorem KeyOf.open {b ua : Array UInt8} {s k : Int} (K : KeyOf b ua s k) : ∃ ks, ks = KBw.bInts ua ++ le8 (s * 256 + k) ∧ KBw.bInts b = ks ∧ 8 ≤ ks.length ∧ ks.length ≤ 13 := by
  refine ⟨_, rfl, K.oct, ?_, ?_⟩ <;> rw [List.length_append, le8_length] <;> have := K.short <;> omega
theorem KeyOf.user {b ua u : Array UInt8} {s k : Int} (K : KeyOf b ua s k) {ks : List Int} (e : ks = KBw.bInts ua ++ le8 (s * 256 + k)) (h : KBw.bInts u = ks.take (ks.length - 8)) : u = ua := by
  refine ints_inj (h.trans ?_)
  rw [e, List.length_append, le8_length, Nat.add_sub_cancel, List.take_left]
theorem KeyOf.tag {b ua : Array UInt8} {s k : Int} (K : KeyOf b ua s k) {ks : List Int} (e : ks = KBw.bInts ua ++ le8 (s * 256 + k)) : leV (ks.drop (ks.length - 8)) = s * 256 + k := by
  rw [e, List.length_append, le8_length, Nat.add_sub_cancel, List.drop_left, leV_le8]
  have := K.s0; have := K.k0; omega
theorem ordT_user {ua uc : Array UInt8} {q k q2 k2 : Int} (h : sg (ordB ua uc) ≠ 0) : sg (ordB ua uc) = sg (ordT ua q k uc q2 k2) := by
  unfold ordT
  cases e : ordB ua uc with
  | eq => rw [e] at h; exact absurd rfl h
  | lt => rfl
  | gt => rfl
theorem ordT_tag {ua uc : Array UInt8} {s1 k1 s2 k2 : Int} (h : sg (ordB ua uc) = 0) (a0 : 0 ≤ k1) (a1 : k1 ≤ 1) (b0 : 0 ≤ k2) (b1 : k2 ≤ 1) :
    sg (ordT ua (0 - s1) (0 - k1) uc (0 - s2) (0 - k2)) = if s1 * 256 + k1 > s2 * 256 + k2 then -1 else if s1 * 256 + k1 < s2 * 256 + k2 then 1 else 0 := by
  unfold ordT
  cases e : ordB ua uc with
  | lt => rw [e] at h; exact absurd h (by decide)
  | gt => rw [e] at h; exact absurd h (by decide)
  | eq =>
    dsimp only
    by_cases c1 : (0 - s1 : Int) < 0 - s2
    · rw [if_pos c1, if_pos (by omega)]; rfl
    · rw [if_neg c1]
      by_cases c2 : (0 - s2 : Int) < 0 - s1
      · rw [if_pos c2, if_neg (by omega), if_pos (by omega)]; rfl
      · rw [if_neg c2]
        by_cases c3 : (0 - k1 : Int) < 0 - k2
        · rw [if_pos c3, if_pos (by omega)]; rfl
        · rw [if_neg c3]
          by_cases c4 : (0 - k2 : Int) < 0 - k1
          · rw [if_pos c4, if_neg (by omega), if_pos (by omega)]; rfl
          · rw [if_neg c4, if_neg (by omega), if_neg (by omega)]; rfl
set_option maxHeartbeats 1000000 in
theorem icmp_bad2 {w : World} {mean : ExcName → Option Value} {mg mb : Str → Option Value} {dp un : Nat} {gd : Option (List Code)} {cn : Str} {cs : Scope} {a : Addr} {ccd : Value} {cl : List (Str × Addr)} {outer : List Env} {A₀ : Around} {base h₀ : Heap} {L : Addr} {m : Str → Option Value} {s : Shared} {Q E : Value → Shared → Prop} {news : List (Addr × Obj)} {xi di xb db : Addr} {ti : Tok} {b c : Array UInt8} {ks : List Int} {u v : Tok}
  (B : Below A₀ base outer h₀) (F : Fr h₀ L s.heap m) (X : (Mine.hd.heap_39 w.params).In h₀) (N : News h₀ L s.heap news) (T : Top Mine.view (looseW Mine.view []) mean mg mb h₀) (hk : cs.kind = .function)
  (m1 : (xi, instObj 265 di) ∈ news)
  (m2 : (di, dictOf [⟨PyData.keyHash w.params (Str.ofString "user_order"), .str (Str.ofString "user_order") ti, .ref xb⟩] 1) ∈ news)
  (m3 : (xb, instObj 211 db) ∈ news)
  (m4 : (db, dictOf [] 0) ∈ news)
  (hb : KBw.bInts b = ks)
  (h8 : 8 ≤ ks.length)
  (h9 : ks.length ≤ 1000)
  (hz : c.size < 8)
  (hd : dp + 3 < recursionLimit) (hu : un + 24 < cLine)
  (hraise : ∀ e t9 vs9 g9 (h' : Heap) (tk' : Nat), Fr h₀ L g9 m → RaisedS base g9 (envX cn cs L a ccd cl :: outer) e (.ref 49) t9 vs9 news h' → RaisedK base (envX cn cs L a ccd cl :: outer) e (.ref 49) t9 vs9 news h' → g9.UpToSlots h' → E (.ref e) { s with heap := h', toks := tk' }) :
  wpAny (model Challenge.rw_xw0260_01.row.prog w) (ktrTop dp un gd cn cs L a ccd cl outer) (call (.ref 234) [.ref xi, .bytes b u, .bytes c v]) Q E s := by
  revert X; k_fill; intro X
  have kd0 : KtsDicts [] h₀ := fun b hb => by cases hb
  refine wpAny_call ?_
  k_dflt cell_enter
  k_steps
  all_goals first | (exfalso; omega) | exact hraise _ _ _ _ _ _ (by assumption) (by assumption) (by assumption) (by assumption)
theorem lines_32 : True := by
  k_with "m call ref" => (k_here; (with_reducible show wpAny _ _ (call (Value.ref 234) [Value.ref _, Value.bytes _ _, Value.bytes _ _]) _ _ _); k_dflt (refine' icmp_bad2 ?z9B ?z9F ?z9X ?z9N ?z9T ?z9hk ?z9hm1 ?z9hm2 ?z9hm3 ?z9hm4 ?z9hhb ?z9hh8 ?z9hh9 ?z9hhz ?z9hd ?z9hu ?_; (case z9B => k_asm); (case z9F => k_asm); (case z9X => k_asm); (case z9N => k_asm); (case z9T => k_asm); (case z9hk => first | exact rfl | assumption); (case z9hm1 => k_mem); (case z9hm2 => k_mem); (case z9hm3 => k_mem); (case z9hm4 => k_mem); (case z9hhb => kba_ints); (case z9hh8 => first | omega | kba_size | l_fact); (case z9hh9 => first | omega | kba_size | l_fact); (case z9hhz => with_reducible assumption); (case z9hd => ktr_room); (case z9hu => ktr_units); k_whole); intro eZ tZ vsZ gZ hZ tkZ FGZ SZ RZ UZ; (try dsimp only at SZ RZ UZ ⊢); walk_say "BY icmp_bad2")
  trivial
set_option maxHeartbeats 1000000 in
theorem isep_bad2 {w : World} {mean : ExcName → Option Value} {mg mb : Str → Option Value} {dp un : Nat} {gd : Option (List Code)} {cn : Str} {cs : Scope} {a : Addr} {ccd : Value} {cl : List (Str × Addr)} {outer : List Env} {A₀ : Around} {base h₀ : Heap} {L : Addr} {m : Str → Option Value} {s : Shared} {Q E : Value → Shared → Prop} {news : List (Addr × Obj)} {xi di xb db : Addr} {ti : Tok} {b c : Array UInt8} {ks : List Int} {u v : Tok}
  (B : Below A₀ base outer h₀) (F : Fr h₀ L s.heap m) (X : (Mine.hd.heap_39 w.params).In h₀) (N : News h₀ L s.heap news) (T : Top Mine.view (looseW Mine.view []) mean mg mb h₀) (hk : cs.kind = .function)
  (m1 : (xi, instObj 265 di) ∈ news)
  (m2 : (di, dictOf [⟨PyData.keyHash w.params (Str.ofString "user_order"), .str (Str.ofString "user_order") ti, .ref xb⟩] 1) ∈ news)
  (m3 : (xb, instObj 211 db) ∈ news)
  (m4 : (db, dictOf [] 0) ∈ news)
  (hb : KBw.bInts b = ks)
  (h8 : 8 ≤ ks.length)
  (h9 : ks.length ≤ 1000)
  (hz : c.size < 8)
  (hd : dp + 3 < recursionLimit) (hu : un + 24 < cLine)
  (hraise : ∀ e t9 vs9 g9 (h' : Heap) (tk' : Nat), Fr h₀ L g9 m → RaisedS base g9 (envX cn cs L a ccd cl :: outer) e (.ref 49) t9 vs9 news h' → RaisedK base (envX cn cs L a ccd cl :: outer) e (.ref 49) t9 vs9 news h' → g9.UpToSlots h' → E (.ref e) { s with heap := h', toks := tk' }) :
  wpAny (model Challenge.rw_xw0260_01.row.prog w) (ktrTop dp un gd cn cs L a ccd cl outer) (call (.ref 248) [.ref xi, .bytes b u, .bytes c v]) Q E s := by
  revert X; k_fill; intro X
  have kd0 : KtsDicts [] h₀ := fun b hb => by cases hb
  refine wpAny_call ?_
  k_dflt cell_enter
  k_steps
  all_goals first | (exfalso; omega) | exact hraise _ _ _ _ _ _ (by assumption) (by assumption) (by assumption) (by assumption)
theorem lines_33 : True := by
  k_with "m call ref" => (k_here; (with_reducible show wpAny _ _ (call (Value.ref 248) [Value.ref _, Value.bytes _ _, Value.bytes _ _]) _ _ _); k_dflt (refine' isep_bad2 ?z9B ?z9F ?z9X ?z9N ?z9T ?z9hk ?z9hm1 ?z9hm2 ?z9hm3 ?z9hm4 ?z9hhb ?z9hh8 ?z9hh9 ?z9hhz ?z9hd ?z9hu ?_; (case z9B => k_asm); (case z9F => k_asm); (case z9X => k_asm); (case z9N => k_asm); (case z9T => k_asm); (case z9hk => first | exact rfl | assumption); (case z9hm1 => k_mem); (case z9hm2 => k_mem); (case z9hm3 => k_mem); (case z9hm4 => k_mem); (case z9hhb => kba_ints); (case z9hh8 => first | omega | kba_size | l_fact); (case z9hh9 => first | omega | kba_size | l_fact); (case z9hhz => with_reducible assumption); (case z9hd => ktr_room); (case z9hu => ktr_units); k_whole); intro eZ tZ vsZ gZ hZ tkZ FGZ SZ RZ UZ; (try dsimp only at SZ RZ UZ ⊢); walk_say "BY isep_bad2")
  trivial
set_option maxHeartbeats 1000000 in
theorem icmp_c {w : World} {mean : ExcName → Option Value} {mg mb : Str → Option Value} {dp un : Nat} {gd : Option (List Code)} {cn : Str} {cs : Scope} {a : Addr} {ccd : Value} {cl : List (Str × Addr)} {outer : List Env} {A₀ : Around} {base h₀ : Heap} {L : Addr} {m : Str → Option Value} {s : Shared} {Q E : Value → Shared → Prop} {news : List (Addr × Obj)} {xi di xb db : Addr} {ti : Tok} {ua uc b c : Array UInt8} {s1 k1 s2 k2 : Int} {u v : Tok}
  (B : Below A₀ base outer h₀) (F : Fr h₀ L s.heap m) (X : (Mine.hd.heap_39 w.params).In h₀) (N : News h₀ L s.heap news) (T : Top Mine.view (looseW Mine.view []) mean mg mb h₀) (hk : cs.kind = .function)
  (m1 : (xi, instObj 265 di) ∈ news)
  (m2 : (di, dictOf [⟨PyData.keyHash w.params (Str.ofString "user_order"), .str (Str.ofString "user_order") ti, .ref xb⟩] 1) ∈ news)
  (m3 : (xb, instObj 211 db) ∈ news)
  (m4 : (db, dictOf [] 0) ∈ news)
  (K1 : KeyOf b ua s1 k1)
  (K2 : KeyOf c uc s2 k2)
  (hd : dp + 4 < recursionLimit) (hu : un + 32 < cLine)
  (hret : ∀ t' (h' : Heap) (tk' : Nat), Fr h₀ L h' m → News h₀ L h' news → Q (.int (sg (ordT ua (0 - s1) (0 - k1) uc (0 - s2) (0 - k2))) t') { s with heap := h', toks := tk' }) :
  wpAny (model Challenge.rw_xw0260_01.row.prog w) (ktrTop dp un gd cn cs L a ccd cl outer) (call (.ref 234) [.ref xi, .bytes b u, .bytes c v]) Q E s := by
  revert X; k_fill; intro X
  obtain ⟨ks1, e1, hb1, h81, h91⟩ := K1.open
  obtain ⟨ks2, e2, hb2, h82, h92⟩ := K2.open
  refine wpAny_call ?_
  k_dflt cell_enter
  k_steps
  all_goals (
    have q1 := K1.user e1 (by assumption)
    have q2 := K2.user e2 (by assumption)
    subst q1 q2
    try rw [K1.tag e1, K2.tag e2] at *)
  · exact cb_retI hret (ordT_user (by assumption)) (by assumption) (by assumption)
  all_goals (
    refine cb_retI hret ?_ (by assumption) (by assumption)
    rw [ordT_tag (by assumption) K1.k0 K1.k1 K2.k0 K2.k1]
    first | rw [if_pos (by omega)] | rw [if_neg (by omega), if_pos (by omega)] | rw [if_neg (by omega), if_neg (by omega)])
theorem lines_34 : True := by
  k_with "m call ref" => (k_here; (with_reducible show wpAny _ _ (call (Value.ref 234) [Value.ref _, Value.bytes _ _, Value.bytes _ _]) _ _ _); k_dflt (refine' icmp_c ?z9B ?z9F ?z9X ?z9N ?z9T ?z9hk ?z9hm1 ?z9hm2 ?z9hm3 ?z9hm4 ?z9hK1 ?z9hK2 ?z9hd ?z9hu ?_; (case z9B => k_asm); (case z9F => k_asm); (case z9X => k_asm); (case z9N => k_asm); (case z9T => k_asm); (case z9hk => first | exact rfl | assumption); (case z9hm1 => k_mem); (case z9hm2 => k_mem); (case z9hm3 => k_mem); (case z9hm4 => k_mem); (case z9hK1 => with_reducible assumption); (case z9hK2 => with_reducible assumption); (case z9hd => ktr_room); (case z9hu => ktr_units); k_whole); intro r0Z hZ tkZ  FZ NZ; (try dsimp only); (try k_sweep); walk_say "BY icmp_c")
  trivial

set_option maxHeartbeats 1000000 in
theorem split2_bytes {w : World} {mean : ExcName → Option Value} {mg mb : Str → Option Value} {dp un : Nat} {gd : Option (List Code)} {cn : Str} {cs : Scope} {a : Addr} {ccd : Value} {cl : List (Str × Addr)} {outer : List Env} {A₀ : Around} {base h₀ : Heap} {L : Addr} {m : Str → Option Value} {s : Shared} {Q E : Value → Shared → Prop} {news : List (Addr × Obj)} {b : Array UInt8} {ks : List Int} {t : Tok}
  (B : Below A₀ base outer h₀) (F : Fr h₀ L s.heap m) (X : (Mine.hd.heap_39 w.params).In h₀) (N : News h₀ L s.heap news) (T : Top Mine.view (looseW Mine.view []) mean mg mb h₀) (hk : cs.kind = .function)
  (hb : KBw.bInts b = ks)
  (hlen : 8 ≤ ks.length)
  (hz : ks.length ≤ 1000)
  (h2 : leV (ks.drop (ks.length - 8)) % 256 ≤ 1)
  (hd : dp + 4 < recursionLimit) (hu : un + 32 < cLine)
  (hret : ∀ D b' t1' t2' t3' (h' : Heap) (tk' : Nat), KBw.bInts b' = ks.take (ks.length - 8) → AllLt D news → Fr h₀ L h' m → News h₀ L h' ((D, ({ cls := .type "tuple", data := .seq #[.bytes b' t1', .int (leV (ks.drop (ks.length - 8)) / 256) t2', .int (leV (ks.drop (ks.length - 8)) % 256) t3'] } : Obj)) :: news) → Q (.ref D) { s with heap := h', toks := tk' }) :
  wpAny (model Challenge.rw_xw0260_01.row.prog w) (ktrTop dp un gd cn cs L a ccd cl outer) (call (.ref 124) [.bytes b t]) Q E s := by
  revert X; k_fill; intro X
  refine wpAny_call ?_
  k_dflt cell_enter
  k_steps
  all_goals first | (exfalso; omega) | exact hret _ _ _ _ _ _ _ (by assumption) (allLt_of (by assumption)) (by assumption) (by assumption)
set_option maxHeartbeats 1000000 in
theorem split2_ba {w : World} {mean : ExcName → Option Value} {mg mb : Str → Option Value} {dp un : Nat} {gd : Option (List Code)} {cn : Str} {cs : Scope} {a : Addr} {ccd : Value} {cl : List (Str × Addr)} {outer : List Env} {A₀ : Around} {base h₀ : Heap} {L : Addr} {m : Str → Option Value} {s : Shared} {Q E : Value → Shared → Prop} {news : List (Addr × Obj)} {x : Addr} {b : Array UInt8} {ks : List Int}
  (B : Below A₀ base outer h₀) (F : Fr h₀ L s.heap m) (X : (Mine.hd.heap_39 w.params).In h₀) (N : News h₀ L s.heap news) (T : Top Mine.view (looseW Mine.view []) mean mg mb h₀) (hk : cs.kind = .function)
  (hx : (x, baObj b) ∈ news)
  (hb : KBw.bInts b = ks)
  (hlen : 8 ≤ ks.length)
  (hz : ks.length ≤ 1000)
  (h2 : leV (ks.drop (ks.length - 8)) % 256 ≤ 1)
  (hd : dp + 4 < recursionLimit) (hu : un + 32 < cLine)
  (hret : ∀ D b' t1' t2' t3' (h' : Heap) (tk' : Nat), KBw.bInts b' = ks.take (ks.length - 8) → AllLt D news → Fr h₀ L h' m → News h₀ L h' ((D, ({ cls := .type "tuple", data := .seq #[.bytes b' t1', .int (leV (ks.drop (ks.length - 8)) / 256) t2', .int (leV (ks.drop (ks.length - 8)) % 256) t3'] } : Obj)) :: news) → Q (.ref D) { s with heap := h', toks := tk' }) :
  wpAny (model Challenge.rw_xw0260_01.row.prog w) (ktrTop dp un gd cn cs L a ccd cl outer) (call (.ref 124) [.ref x]) Q E s := by
  revert X; k_fill; intro X
  refine wpAny_call ?_
  k_dflt cell_enter
  k_steps
  all_goals first | (exfalso; omega) | exact hret _ _ _ _ _ _ _ (by assumption) (allLt_of (by assumption)) (by assumption) (by assumption)
set_option maxHeartbeats 1000000 in
theorem make_key {w : World} {mean : ExcName → Option Value} {mg mb : Str → Option Value} {dp un : Nat} {gd : Option (List Code)} {cn : Str} {cs : Scope} {a : Addr} {ccd : Value} {cl : List (Str × Addr)} {outer : List Env} {A₀ : Around} {base h₀ : Heap} {L : Addr} {m : Str → Option Value} {s : Shared} {Q E : Value → Shared → Prop} {news : List (Addr × Obj)} {b : Array UInt8} {t : Tok} {q k : Int} {u v : Tok}
  (B : Below A₀ base outer h₀) (F : Fr h₀ L s.heap m) (X : (Mine.hd.heap_39 w.params).In h₀) (N : News h₀ L s.heap news) (T : Top Mine.view (looseW Mine.view []) mean mg mb h₀) (hk : cs.kind = .function)
  (h5 : (KBw.bInts b).length ≤ 5)
  (h0 : 0 ≤ q)
  (h1 : q ≤ 72057594037927935)
  (k0 : 0 ≤ k)
  (k1 : k ≤ 1)
  (hd : dp + 3 < recursionLimit) (hu : un + 24 < cLine)
  (hret : ∀ b' t' (h' : Heap) (tk' : Nat), KeyOf b' b q k → Fr h₀ L h' m → News h₀ L h' news → Q (.bytes b' t') { s with heap := h', toks := tk' }) :
  wpAny (model Challenge.rw_xw0260_01.row.prog w) (ktrTop dp un gd cn cs L a ccd cl outer) (call (.ref 117) [.bytes b t, .int q u, .int k v]) Q E s := by
  exact make_ikey_bytes B F X N T hk rfl (by omega) h0 h1 (by omega) hd hu fun b' t' h' tk' e F' N' => hret b' t' h' tk' ⟨e, h5, h0, h1, k0, k1⟩ F' N'
theorem lines_35 : True := by
  k_with "m call ref" => (k_here; (with_reducible show wpAny _ _ (call (Value.ref 117) [Value.bytes _ _, Value.int _ _, Value.int _ _]) _ _ _); k_dflt (refine' make_key ?z9B ?z9F ?z9X ?z9N ?z9T ?z9hk ?z9hh5 ?z9hh0 ?z9hh1 ?z9hk0 ?z9hk1 ?z9hd ?z9hu ?_; (case z9B => k_asm); (case z9F => k_asm); (case z9X => k_asm); (case z9N => k_asm); (case z9T => k_asm); (case z9hk => first | exact rfl | assumption); (case z9hh5 => first | with_reducible assumption | omega); (case z9hh0 => first | omega | kba_size | l_fact); (case z9hh1 => first | omega | kba_size | l_fact); (case z9hk0 => first | omega | kba_size | l_fact); (case z9hk1 => first | omega | kba_size | l_fact); (case z9hd => ktr_room); (case z9hu => ktr_units); k_whole); intro r0Z r1Z hZ tkZ hR0Z FZ NZ; (try dsimp only); (try k_sweep); walk_say "BY make_key")
  trivial
set_option maxHeartbeats 1000000 in
theorem oct_key {w : World} {mean : ExcName → Option Value} {mg mb : Str → Option Value} {dp un : Nat} {gd : Option (List Code)} {cn : Str} {cs : Scope} {a : Addr} {ccd : Value} {cl : List (Str × Addr)} {outer : List Env} {A₀ : Around} {base h₀ : Heap} {L : Addr} {m : Str → Option Value} {s : Shared} {Q E : Value → Shared → Prop} {news : List (Addr × Obj)} {b : Array UInt8} {t : Tok} {q k : Int} {u v : Tok}
  (B : Below A₀ base outer h₀) (F : Fr h₀ L s.heap m) (X : (Mine.hd.heap_39 w.params).In h₀) (N : News h₀ L s.heap news) (T : Top Mine.view (looseW Mine.view []) mean mg mb h₀) (hk : cs.kind = .function)
  (h5 : (KBw.bInts b).length ≤ 5)
  (h0 : 0 ≤ q)
  (h1 : q ≤ 72057594037927935)
  (k0 : 0 ≤ k)
  (k1 : k ≤ 1)
  (hd : dp + 3 < recursionLimit) (hu : un + 24 < cLine)
  (hret : ∀ b' t' (h' : Heap) (tk' : Nat), KeyOf b' b q k → Fr h₀ L h' m → News h₀ L h' news → Q (.bytes b' t') { s with heap := h', toks := tk' }) :
  wpAny (model Challenge.rw_xw0260_01.row.prog w) (ktrTop dp un gd cn cs L a ccd cl outer) (call (.ref 291) [.bytes b t, .int q u, .int k v]) Q E s := by
  exact octets_c B F X N T hk rfl h5 h0 h1 k0 k1 (by omega) (by omega) fun b' t' h' tk' e F' N' => hret b' t' h' tk' ⟨e, h5, h0, h1, k0, k1⟩ F' N'
theorem lines_36 : True := by
  k_with "m call ref" => (k_here; (with_reducible show wpAny _ _ (call (Value.ref 291) [Value.bytes _ _, Value.int _ _, Value.int _ _]) _ _ _); k_dflt (refine' oct_key ?z9B ?z9F ?z9X ?z9N ?z9T ?z9hk ?z9hh5 ?z9hh0 ?z9hh1 ?z9hk0 ?z9hk1 ?z9hd ?z9hu ?_; (case z9B => k_asm); (case z9F => k_asm); (case z9X => k_asm); (case z9N => k_asm); (case z9T => k_asm); (case z9hk => first | exact rfl | assumption); (case z9hh5 => first | with_reducible assumption | omega); (case z9hh0 => first | omega | kba_size | l_fact); (case z9hh1 => first | omega | kba_size | l_fact); (case z9hk0 => first | omega | kba_size | l_fact); (case z9hk1 => first | omega | kba_size | l_fact); (case z9hd => ktr_room); (case z9hu => ktr_units); k_whole); intro r0Z r1Z hZ tkZ hR0Z FZ NZ; (try dsimp only); (try k_sweep); walk_say "BY oct_key")
  trivial
set_option maxHeartbeats 1000000 in
theorem user_key {w : World} {mean : ExcName → Option Value} {mg mb : Str → Option Value} {dp un : Nat} {gd : Option (List Code)} {cn : Str} {cs : Scope} {a : Addr} {ccd : Value} {cl : List (Str × Addr)} {outer : List Env} {A₀ : Around} {base h₀ : Heap} {L : Addr} {m : Str → Option Value} {s : Shared} {Q E : Value → Shared → Prop} {news : List (Addr × Obj)} {b ua : Array UInt8} {q k : Int} {t : Tok}
  (B : Below A₀ base outer h₀) (F : Fr h₀ L s.heap m) (X : (Mine.hd.heap_39 w.params).In h₀) (N : News h₀ L s.heap news) (T : Top Mine.view (looseW Mine.view []) mean mg mb h₀) (hk : cs.kind = .function)
  (K : KeyOf b ua q k)
  (hd : dp + 1 < recursionLimit) (hu : un + 8 < cLine)
  (hret : ∀ t' (h' : Heap) (tk' : Nat), Fr h₀ L h' m → News h₀ L h' news → Q (.bytes ua t') { s with heap := h', toks := tk' }) :
  wpAny (model Challenge.rw_xw0260_01.row.prog w) (ktrTop dp un gd cn cs L a ccd cl outer) (call (.ref 131) [.bytes b t]) Q E s := by
  obtain ⟨ks, e, hb, h8, h9⟩ := K.open
  exact user_of_bytes B F X N T hk hb h8 (by omega) hd hu fun b' t' h' tk' e' F' N' => by cases K.user e e'; exact hret t' h' tk' F' N'
theorem lines_37 : True := by
  k_with "m call ref" => (k_here; (with_reducible show wpAny _ _ (call (Value.ref 131) [Value.bytes _ _]) _ _ _); k_dflt (refine' user_key ?z9B ?z9F ?z9X ?z9N ?z9T ?z9hk ?z9hK ?z9hd ?z9hu ?_; (case z9B => k_asm); (case z9F => k_asm); (case z9X => k_asm); (case z9N => k_asm); (case z9T => k_asm); (case z9hk => first | exact rfl | assumption); (case z9hK => with_reducible assumption); (case z9hd => ktr_room); (case z9hu => ktr_units); k_whole); intro r0Z hZ tkZ  FZ NZ; (try dsimp only); (try k_sweep); walk_say "BY user_key")
  trivial
set_option maxHeartbeats 1000000 in
theorem tag_key {w : World} {mean : ExcName → Option Value} {mg mb : Str → Option Value} {dp un : Nat} {gd : Option (List Code)} {cn : Str} {cs : Scope} {a : Addr} {ccd : Value} {cl : List (Str × Addr)} {outer : List Env} {A₀ : Around} {base h₀ : Heap} {L : Addr} {m : Str → Option Value} {s : Shared} {Q E : Value → Shared → Prop} {news : List (Addr × Obj)} {b ua : Array UInt8} {q k : Int} {t : Tok}
  (B : Below A₀ base outer h₀) (F : Fr h₀ L s.heap m) (X : (Mine.hd.heap_39 w.params).In h₀) (N : News h₀ L s.heap news) (T : Top Mine.view (looseW Mine.view []) mean mg mb h₀) (hk : cs.kind = .function)
  (K : KeyOf b ua q k)
  (hd : dp + 3 < recursionLimit) (hu : un + 24 < cLine)
  (hret : ∀ t' (h' : Heap) (tk' : Nat), Fr h₀ L h' m → News h₀ L h' news → Q (.int (q * 256 + k) t') { s with heap := h', toks := tk' }) :
  wpAny (model Challenge.rw_xw0260_01.row.prog w) (ktrTop dp un gd cn cs L a ccd cl outer) (call (.ref 138) [.bytes b t]) Q E s := by
  obtain ⟨ks, e, hb, h8, h9⟩ := K.open
  exact tag_of_bytes B F X N T hk hb h8 (by omega) hd hu fun t' h' tk' _ _ F' N' => by rw [K.tag e]; exact hret t' h' tk' F' N'
theorem lines_38 : True := by
  k_with "m call ref" => (k_here; (with_reducible show wpAny _ _ (call (Value.ref 138) [Value.bytes _ _]) _ _ _); k_dflt (refine' tag_key ?z9B ?z9F ?z9X ?z9N ?z9T ?z9hk ?z9hK ?z9hd ?z9hu ?_; (case z9B => k_asm); (case z9F => k_asm); (case z9X => k_asm); (case z9N => k_asm); (case z9T => k_asm); (case z9hk => first | exact rfl | assumption); (case z9hK => with_reducible assumption); (case z9hd => ktr_room); (case z9hu => ktr_units); k_whole); intro r0Z hZ tkZ  FZ NZ; (try dsimp only); (try k_sweep); walk_say "BY tag_key")
  trivial
set_option maxHeartbeats 1000000 in
theorem split_key {w : World} {mean : ExcName → Option Value} {mg mb : Str → Option Value} {dp un : Nat} {gd : Option (List Code)} {cn : Str} {cs : Scope} {a : Addr} {ccd : Value} {cl : List (Str × Addr)} {outer : List Env} {A₀ : Around} {base h₀ : Heap} {L : Addr} {m : Str → Option Value} {s : Shared} {Q E : Value → Shared → Prop} {news : List (Addr × Obj)} {t : Tok} {b ua : Array UInt8} {q k : Int}
  (B : Below A₀ base outer h₀) (F : Fr h₀ L s.heap m) (X : (Mine.hd.heap_39 w.params).In h₀) (N : News h₀ L s.heap news) (T : Top Mine.view (looseW Mine.view []) mean mg mb h₀) (hk : cs.kind = .function)
  (K : KeyOf b ua q k)
  (hd : dp + 4 < recursionLimit) (hu : un + 32 < cLine)
  (hret : ∀ D t1' t2' t3' (h' : Heap) (tk' : Nat), AllLt D news → Fr h₀ L h' m → News h₀ L h' ((D, tripleObj ua t1' q t2' k t3') :: news) → Q (.ref D) { s with heap := h', toks := tk' }) :
  wpAny (model Challenge.rw_xw0260_01.row.prog w) (ktrTop dp un gd cn cs L a ccd cl outer) (call (.ref 124) [.bytes b t]) Q E s := by
  obtain ⟨ks, e, hb, h8, h9⟩ := K.open
  have z1 := K.k0
  have z2 := K.k1
  refine split2_bytes B F X N T hk hb h8 (by omega) (by rw [K.tag e]; omega) hd hu fun D b' t1' t2' t3' h' tk' e' l' F' N' => ?_
  cases K.user e e'
  rw [K.tag e, show (q * 256 + k) / 256 = q from by omega, show (q * 256 + k) % 256 = k from by omega] at N'
  exact hret D t1' t2' t3' h' tk' l' F' N'
theorem lines_39 : True := by
  k_with "m call ref" => (k_here; (with_reducible show wpAny _ _ (call (Value.ref 124) [Value.bytes _ _]) _ _ _); k_dflt (refine' split_key ?z9B ?z9F ?z9X ?z9N ?z9T ?z9hk ?z9hK ?z9hd ?z9hu ?_; (case z9B => k_asm); (case z9F => k_asm); (case z9X => k_asm); (case z9N => k_asm); (case z9T => k_asm); (case z9hk => first | exact rfl | assumption); (case z9hK => with_reducible assumption); (case z9hd => ktr_room); (case z9hu => ktr_units); k_whole); intro r0Z r1Z r2Z r3Z hZ tkZ hltZ FZ NZ; (try dsimp only); (try k_sweep); walk_say "BY split_key")
  trivial
set_option maxHeartbeats 1000000 in
theorem split_keyB {w : World} {mean : ExcName → Option Value} {mg mb : Str → Option Value} {dp un : Nat} {gd : Option (List Code)} {cn : Str} {cs : Scope} {a : Addr} {ccd : Value} {cl : List (Str × Addr)} {outer : List Env} {A₀ : Around} {base h₀ : Heap} {L : Addr} {m : Str → Option Value} {s : Shared} {Q E : Value → Shared → Prop} {news : List (Addr × Obj)} {x : Addr} {b ua : Array UInt8} {q k : Int}
  (B : Below A₀ base outer h₀) (F : Fr h₀ L s.heap m) (X : (Mine.hd.heap_39 w.params).In h₀) (N : News h₀ L s.heap news) (T : Top Mine.view (looseW Mine.view []) mean mg mb h₀) (hk : cs.kind = .function)
  (hx : (x, baObj b) ∈ news)
  (K : KeyOf b ua q k)
  (hd : dp + 4 < recursionLimit) (hu : un + 32 < cLine)
  (hret : ∀ D t1' t2' t3' (h' : Heap) (tk' : Nat), AllLt D news → Fr h₀ L h' m → News h₀ L h' ((D, tripleObj ua t1' q t2' k t3') :: news) → Q (.ref D) { s with heap := h', toks := tk' }) :
  wpAny (model Challenge.rw_xw0260_01.row.prog w) (ktrTop dp un gd cn cs L a ccd cl outer) (call (.ref 124) [.ref x]) Q E s := by
  obtain ⟨ks, e, hb, h8, h9⟩ := K.open
  have z1 := K.k0
  have z2 := K.k1
  refine split2_ba B F X N T hk hx hb h8 (by omega) (by rw [K.tag e]; omega) hd hu fun D b' t1' t2' t3' h' tk' e' l' F' N' => ?_
  cases K.user e e'
  rw [K.tag e, show (q * 256 + k) / 256 = q from by omega, show (q * 256 + k) % 256 = k from by omega] at N'
  exact hret D t1' t2' t3' h' tk' l' F' N'
theorem lines_40 : True := by
  k_with "m call ref" => (k_here; (with_reducible show wpAny _ _ (call (Value.ref 124) [Value.ref _]) _ _ _); k_dflt (refine' split_keyB ?z9B ?z9F ?z9X ?z9N ?z9T ?z9hk ?z9hhx ?z9hK ?z9hd ?z9hu ?_; (case z9B => k_asm); (case z9F => k_asm); (case z9X => k_asm); (case z9N => k_asm); (case z9T => k_asm); (case z9hk => first | exact rfl | assumption); (case z9hhx => k_mem); (case z9hK => with_reducible assumption); (case z9hd => ktr_room); (case z9hu => ktr_units); k_whole); intro r0Z r1Z r2Z r3Z hZ tkZ hltZ FZ NZ; (try dsimp only); (try k_sweep); walk_say "BY split_keyB")
  trivial
set_option maxHeartbeats 1000000 in
theorem user_keyB {w : World} {mean : ExcName → Option Value} {mg mb : Str → Option Value} {dp un : Nat} {gd : Option (List Code)} {cn : Str} {cs : Scope} {a : Addr} {ccd : Value} {cl : List (Str × Addr)} {outer : List Env} {A₀ : Around} {base h₀ : Heap} {L : Addr} {m : Str → Option Value} {s : Shared} {Q E : Value → Shared → Prop} {news : List (Addr × Obj)} {x : Addr} {b ua : Array UInt8} {q k : Int}
  (B : Below A₀ base outer h₀) (F : Fr h₀ L s.heap m) (X : (Mine.hd.heap_39 w.params).In h₀) (N : News h₀ L s.heap news) (T : Top Mine.view (looseW Mine.view []) mean mg mb h₀) (hk : cs.kind = .function)
  (hx : (x, baObj b) ∈ news)
  (K : KeyOf b ua q k)
  (hd : dp + 1 < recursionLimit) (hu : un + 8 < cLine)
  (hret : ∀ t' (h' : Heap) (tk' : Nat), Fr h₀ L h' m → News h₀ L h' news → Q (.bytes ua t') { s with heap := h', toks := tk' }) :
  wpAny (model Challenge.rw_xw0260_01.row.prog w) (ktrTop dp un gd cn cs L a ccd cl outer) (call (.ref 131) [.ref x]) Q E s := by
  obtain ⟨ks, e, hb, h8, h9⟩ := K.open
  exact user_of_ba B F X N T hk hx hb h8 (by omega) hd hu fun b' t' h' tk' e' F' N' => by cases K.user e e'; exact hret t' h' tk' F' N'
theorem lines_41 : True := by
  k_with "m call ref" => (k_here; (with_reducible show wpAny _ _ (call (Value.ref 131) [Value.ref _]) _ _ _); k_dflt (refine' user_keyB ?z9B ?z9F ?z9X ?z9N ?z9T ?z9hk ?z9hhx ?z9hK ?z9hd ?z9hu ?_; (case z9B => k_asm); (case z9F => k_asm); (case z9X => k_asm); (case z9N => k_asm); (case z9T => k_asm); (case z9hk => first | exact rfl | assumption); (case z9hhx => k_mem); (case z9hK => with_reducible assumption); (case z9hd => ktr_room); (case z9hu => ktr_units); k_whole); intro r0Z hZ tkZ  FZ NZ; (try dsimp only); (try k_sweep); walk_say "BY user_keyB")
  trivial
set_option maxHeartbeats 1000000 in
theorem tag_keyB {w : World} {mean : ExcName → Option Value} {mg mb : Str → Option Value} {dp un : Nat} {gd : Option (List Code)} {cn : Str} {cs : Scope} {a : Addr} {ccd : Value} {cl : List (Str × Addr)} {outer : List Env} {A₀ : Around} {base h₀ : Heap} {L : Addr} {m : Str → Option Value} {s : Shared} {Q E : Value → Shared → Prop} {news : List (Addr × Obj)} {x : Addr} {b ua : Array UInt8} {q k : Int}
  (B : Below A₀ base outer h₀) (F : Fr h₀ L s.heap m) (X : (Mine.hd.heap_39 w.params).In h₀) (N : News h₀ L s.heap news) (T : Top Mine.view (looseW Mine.view []) mean mg mb h₀) (hk : cs.kind = .function)
  (hx : (x, baObj b) ∈ news)
  (K : KeyOf b ua q k)
  (hd : dp + 3 < recursionLimit) (hu : un + 24 < cLine)
  (hret : ∀ t' (h' : Heap) (tk' : Nat), Fr h₀ L h' m → News h₀ L h' news → Q (.int (q * 256 + k) t') { s with heap := h', toks := tk' }) :
  wpAny (model Challenge.rw_xw0260_01.row.prog w) (ktrTop dp un gd cn cs L a ccd cl outer) (call (.ref 138) [.ref x]) Q E s := by
  obtain ⟨ks, e, hb, h8, h9⟩ := K.open
  exact tag_of_ba B F X N T hk hx hb h8 (by omega) hd hu fun t' h' tk' _ _ F' N' => by rw [K.tag e]; exact hret t' h' tk' F' N'
theorem lines_42 : True := by
  k_with "m call ref" => (k_here; (with_reducible show wpAny _ _ (call (Value.ref 138) [Value.ref _]) _ _ _); k_dflt (refine' tag_keyB ?z9B ?z9F ?z9X ?z9N ?z9T ?z9hk ?z9hhx ?z9hK ?z9hd ?z9hu ?_; (case z9B => k_asm); (case z9F => k_asm); (case z9X => k_asm); (case z9N => k_asm); (case z9T => k_asm); (case z9hk => first | exact rfl | assumption); (case z9hhx => k_mem); (case z9hK => with_reducible assumption); (case z9hd => ktr_room); (case z9hu => ktr_units); k_whole); intro r0Z hZ tkZ  FZ NZ; (try dsimp only); (try k_sweep); walk_say "BY tag_keyB")
  trivial
set_option maxHeartbeats 1000000 in
theorem make_keyB {w : World} {mean : ExcName → Option Value} {mg mb : Str → Option Value} {dp un : Nat} {gd : Option (List Code)} {cn : Str} {cs : Scope} {a : Addr} {ccd : Value} {cl : List (Str × Addr)} {outer : List Env} {A₀ : Around} {base h₀ : Heap} {L : Addr} {m : Str → Option Value} {s : Shared} {Q E : Value → Shared → Prop} {news : List (Addr × Obj)} {x : Addr} {b : Array UInt8} {q k : Int} {u v : Tok}
  (B : Below A₀ base outer h₀) (F : Fr h₀ L s.heap m) (X : (Mine.hd.heap_39 w.params).In h₀) (N : News h₀ L s.heap news) (T : Top Mine.view (looseW Mine.view []) mean mg mb h₀) (hk : cs.kind = .function)
  (hx : (x, baObj b) ∈ news)
  (h5 : (KBw.bInts b).length ≤ 5)
  (h0 : 0 ≤ q)
  (h1 : q ≤ 72057594037927935)
  (k0 : 0 ≤ k)
  (k1 : k ≤ 1)
  (hd : dp + 3 < recursionLimit) (hu : un + 24 < cLine)
  (hret : ∀ b' t' (h' : Heap) (tk' : Nat), KeyOf b' b q k → Fr h₀ L h' m → News h₀ L h' news → Q (.bytes b' t') { s with heap := h', toks := tk' }) :
  wpAny (model Challenge.rw_xw0260_01.row.prog w) (ktrTop dp un gd cn cs L a ccd cl outer) (call (.ref 117) [.ref x, .int q u, .int k v]) Q E s := by
  exact make_ikey_ba B F X N T hk hx rfl (by omega) h0 h1 (by omega) hd hu fun b' t' h' tk' e F' N' => hret b' t' h' tk' ⟨e, h5, h0, h1, k0, k1⟩ F' N'
theorem lines_43 : True := by
  k_with "m call ref" => (k_here; (with_reducible show wpAny _ _ (call (Value.ref 117) [Value.ref _, Value.int _ _, Value.int _ _]) _ _ _); k_dflt (refine' make_keyB ?z9B ?z9F ?z9X ?z9N ?z9T ?z9hk ?z9hhx ?z9hh5 ?z9hh0 ?z9hh1 ?z9hk0 ?z9hk1 ?z9hd ?z9hu ?_; (case z9B => k_asm); (case z9F => k_asm); (case z9X => k_asm); (case z9N => k_asm); (case z9T => k_asm); (case z9hk => first | exact rfl | assumption); (case z9hhx => k_mem); (case z9hh5 => first | with_reducible assumption | omega); (case z9hh0 => first | omega | kba_size | l_fact); (case z9hh1 => first | omega | kba_size | l_fact); (case z9hk0 => first | omega | kba_size | l_fact); (case z9hk1 => first | omega | kba_size | l_fact); (case z9hd => ktr_room); (case z9hu => ktr_units); k_whole); intro r0Z r1Z hZ tkZ hR0Z FZ NZ; (try dsimp only); (try k_sweep); walk_say "BY make_keyB")
  trivial

theorem lines_44 : True := by
  k_with_none
  k_with "m call type:bytes" => (k_here; (with_reducible show wpAny _ _ (call (Value.type _) [Value.bytes _ _]) _ _ _); refine bytes_bytes ?_)
  k_with "m call type:bytes" => (k_here; (with_reducible show wpAny _ _ (call (Value.type _) [Value.ref _]) _ _ _); k_dflt (refine' bytes_ba_K ?z9N ?z9m ?z9k ?z9z ?_; (case z9N => k_asm); (case z9m => k_mem); (case z9k => kba_ints); (case z9z => kba_size); k_whole); intro _ _)
  k_with "m call builtin:len" => (k_here; (with_reducible show wpAny _ _ (call (Value.builtin _) [Value.ref _]) _ _ _); k_dflt (refine' len_ba ?z9N ?z9m ?z9k ?z9z ?_; (case z9N => k_asm); (case z9m => k_mem); (case z9k => kba_ints); (case z9z => kba_size); k_whole))
  k_with "m subscriptTail" => (k_here; (with_reducible show wpAny _ _ (subscriptTail _ _ (Value.ref _) (Value.int _ _)) _ _ _); k_dflt (refine' item_ba ?z9N ?z9m ?z9k ?z9z ?z9l ?z9u ?_ ?z9hs ?z9ht; (case z9N => k_asm); (case z9m => k_mem); (case z9k => kba_ints); (case z9z => kba_size); (case z9l => kba_idx); (case z9u => kba_idx); (case z9hs => with_unfolding_all rfl); (case z9ht => intro _; with_unfolding_all rfl); k_whole); intro _ _ baLoZ baHiZ)
  k_with "m subscriptTail" => (k_here; (with_reducible show wpAny _ _ (subscriptTail _ (Expr.Slice _ _ none _) (Value.ref _) (Value.ref _)) _ _ _); (with_reducible rename Fr _ _ _ _ => FZ); (with_reducible rename News _ _ _ _ => NZ); (refine' cut_ba (s := ⟨_, _, _, _, _⟩) FZ NZ ?z9m ?z9k ?z9l ?z9u ?z9z ?_ ?z9hs ?z9ht; (case z9m => k_mem); (case z9k => kba_ints); (case z9l => constructor); (case z9u => constructor); (case z9z => kba_size); (case z9hs => with_unfolding_all rfl); (case z9ht => intro _; with_unfolding_all rfl)); intro _ _ _ FZ NZ l1Z kbcKZ; (try k_lt l1Z); (try simp only [Option.elim, KBc.clip_lit, clipAt_nat, List.drop_zero, Nat.sub_zero] at kbcKZ); (try k_sweep))
  k_with "m compareOp Lt bytes bytes" => refine lt_bytes ?_
  k_with "m compareOp Gt bytes bytes" => refine gt_bytes ?_
  k_with "m binaryOp LShift int int" => (k_here; first
    | ((with_reducible show wpAny _ _ (binaryOp Operator.LShift (Value.int _ _) (Value.int 8 _)) _ _ _); k_dflt (refine shl_K (n := 8) 256 (by decide +kernel) (by decide +kernel) (by decide +kernel) ?_ ?_ ?_; omega; omega; (try dsimp only)))
    | ((with_reducible show wpAny _ _ (binaryOp Operator.LShift (Value.int _ _) (Value.int 16 _)) _ _ _); k_dflt (refine shl_K (n := 16) 65536 (by decide +kernel) (by decide +kernel) (by decide +kernel) ?_ ?_ ?_; omega; omega; (try dsimp only)))
    | ((with_reducible show wpAny _ _ (binaryOp Operator.LShift (Value.int _ _) (Value.int 24 _)) _ _ _); k_dflt (refine shl_K (n := 24) 16777216 (by decide +kernel) (by decide +kernel) (by decide +kernel) ?_ ?_ ?_; omega; omega; (try dsimp only)))
    | ((with_reducible show wpAny _ _ (binaryOp Operator.LShift (Value.int _ _) (Value.int 32 _)) _ _ _); k_dflt (refine shl_K (n := 32) 4294967296 (by decide +kernel) (by decide +kernel) (by decide +kernel) ?_ ?_ ?_; omega; omega; (try dsimp only))))
  k_with "m binaryOp RShift int int" => (k_here; first
    | ((with_reducible show wpAny _ _ (binaryOp Operator.RShift (Value.int _ _) (Value.int 8 _)) _ _ _); k_dflt (refine shr_K (n := 8) 256 (by decide +kernel) (by decide +kernel) ?_ ?_; omega))
    | ((with_reducible show wpAny _ _ (binaryOp Operator.RShift (Value.int _ _) (Value.int 16 _)) _ _ _); k_dflt (refine shr_K (n := 16) 65536 (by decide +kernel) (by decide +kernel) ?_ ?_; omega))
    | ((with_reducible show wpAny _ _ (binaryOp Operator.RShift (Value.int _ _) (Value.int 24 _)) _ _ _); k_dflt (refine shr_K (n := 24) 16777216 (by decide +kernel) (by decide +kernel) ?_ ?_; omega))
    | ((with_reducible show wpAny _ _ (binaryOp Operator.RShift (Value.int _ _) (Value.int 32 _)) _ _ _); k_dflt (refine shr_K (n := 32) 4294967296 (by decide +kernel) (by decide +kernel) ?_ ?_; omega)))
  k_with "m binaryOp BitOr int int" => (k_here; with_reducible (first
    | (refine or_lo_K 256 8 (by decide +kernel) ?_ ?_ ?_ ?_; omega; omega; omega; (try dsimp only))
    | (refine or_lo_K 65536 16 (by decide +kernel) ?_ ?_ ?_ ?_; omega; omega; omega; (try dsimp only))
    | (refine or_lo_K 16777216 24 (by decide +kernel) ?_ ?_ ?_ ?_; omega; omega; omega; (try dsimp only))
    | (refine or_lo_K 4294967296 32 (by decide +kernel) ?_ ?_ ?_ ?_; omega; omega; omega; (try dsimp only))
    | (refine or_hi_K 256 8 (by decide +kernel) ?_ ?_ ?_ ?_; omega; omega; omega; (try dsimp only))))
  k_with "m binaryOp BitAnd int int" => (k_here; with_reducible (first | refine and8_K ?_ | refine and32_K ?_))
  k_with "m binaryOp Add bytes bytes" => (k_here; (with_reducible show wpAny _ _ (binaryOp Operator.Add (Value.bytes _ _) (Value.bytes _ _)) _ _ _); (refine' KBa.add_K ?z9p ?z9q ?z9z ?_); (case z9p => kba_ints); (case z9q => kba_ints); (case z9z => (try simp only [le8_length, le4_length, List.length_append, List.length_take, List.length_drop, List.length_cons, List.length_nil]) <;> omega); intro _ _ hAddZ; (try dsimp only))
  k_with "m compareOp Lt ref ref" => (k_here; (with_reducible show wpAny _ _ (compareOp CmpOp.Lt (Value.ref _) (Value.ref _)) _ _ _); k_dflt (refine' lt_tup ?z9N ?z9x ?z9y ?z9u ?_; (case z9N => k_asm); (case z9x => k_mem); (case z9y => k_mem); (case z9u => first | ktr_units | k_units); k_whole))
  k_with "m call builtin:len" => (k_here; (with_reducible show wpAny _ _ (call (Value.builtin _) [Value.ref _]) _ _ _); k_dflt (refine' call_len_list ?z9l ?z9f ?_; (case z9l => exact News.isList (by k_asm) (by k_mem)); (case z9f => (simp only [List.size_toArray]; first | omega | ((have hL9 := IntsAre.length (by assumption)); omega))); k_whole))
  k_with "m k_all" => first | assumption | (refine' off_of_lt ?z9lt9 ?z9le9; (case z9lt9 => assumption); (case z9le9 => ((try dsimp only); omega)))
  k_with "m binaryOp Pow int int" => (k_here; (with_reducible refine pow_K ?_ ?_ ?_ ?_ ?_); (focus omega); (focus first | (refine' pow_lim ?z9pa ?z9pb; (case z9pa => with_reducible assumption); (case z9pb => omega)) | omega); omega; omega; intro hPow9Z hLog9Z; (try dsimp only))
  k_with "m call type:bytes" => (k_here; (with_reducible show wpAny _ _ (call (Value.type _) [Value.ref _]) _ _ _); k_dflt (refine' KBa.make_K ?z9mkF ?z9mkN ?z9mkh ?z9mkl ?z9mki ?z9mkr ?z9mkz ?_; (case z9mkF => k_asm); (case z9mkN => k_asm); (case z9mkl => is_list); (case z9mki => first | l_ints | l_intsW); (case z9mkr => (intro n9Z hn9Z; (simp only [List.mem_cons, List.not_mem_nil, or_false] at hn9Z); rcases hn9Z with rfl; refine menu_b ?_ ?_ ?_ _ <;> decide)); (case z9mkz => (simp only [List.length_cons, List.length_nil]; omega)); (case z9mkh => with_unfolding_all rfl); k_whole); intro hZ tZ kZ FZ NZ hIn9Z; (try k_sweep))
  k_with "m binaryOp FloorDiv int int" => (k_here; (with_reducible refine fdiv_K ?_ ?_ ?_); (focus omega); (focus first | assumption | (refine log_small ?_ ?_ <;> omega)); (try dsimp only))
  k_with "m binaryOp Mod int int" => (k_here; (with_reducible refine fmod_K ?_ ?_); (focus omega); (try dsimp only))
  k_with "m eval ListComp" => (k_here; (with_reducible show wpAny _ _ (eval (Expr.ListComp _ _ _ _) _) _ _ _); kcf_look; k_dflt (refine LCg.ListComp_U (F₀ := by k_asm) (by with_unfolding_all rfl) (by decide) (by rfl) (by decide) (by rfl) ?_))
  k_with "m formatField int" => (k_here; (refine fmt_int (by with_reducible assumption) ?_); intro y9Z hy9Z; (try dsimp only))
  k_with "m And" => (k_here; (with_reducible show PySem.Str.length (_ ++ _) ≤ sizeLine ∧ _); first | ((with_reducible refine' ⟨fit_y ?z9ya ?z9yb, ?_⟩); (case z9ya => with_reducible assumption); (case z9yb => decide +kernel)) | ((with_reducible show PySem.Str.length (_ ++ _ ++ _) ≤ sizeLine ∧ _); (with_reducible refine' ⟨fit_yl ?z9ya ?z9yb ?z9yc, ?_⟩); (case z9ya => with_reducible assumption); (case z9yb => decide +kernel); (case z9yc => decide +kernel)))
  k_with "m joinParts" => (k_here; (with_reducible show wpAny _ _ (joinParts _ (evalEach [] _)) _ _ _); (with_reducible refine joinParts_nilE ?_); (with_reducible refine' joinParts_nil ?_ ?z9jz); (case z9jz => first | ((with_reducible show PySem.Str.length (_ ++ _ ++ _) ≤ sizeLine); (with_reducible refine' fit_yl ?z9ya ?z9yb ?z9yc); (case z9ya => with_reducible assumption); (case z9yb => decide +kernel); (case z9yc => decide +kernel)) | ((with_reducible refine' fit_y ?z9ya ?z9yb); (case z9ya => with_reducible assumption); (case z9yb => decide +kernel))); (try dsimp only))
  k_with "m formatField int" => (k_here; (refine' fmt_int (shown (N := 1000) ?z9u1 ?z9u2 ?z9u3) ?_; (case z9u1 => omega); (case z9u2 => omega); (case z9u3 => decide +kernel)); intro y9Z hy9Z; (try dsimp only))
  k_with "m exec For Name Call cons nil" => (k_here; (with_reducible rename KtsDicts _ _ => kdGZ); (with_reducible show wpAny _ _ (exec (Stmt.For (Expr.Name _ _) (Expr.Call _ _ _ _) _ [] _) _) _ _ _); with_unfolding_all (refine' For_G ?z9ga ?z9gb ?_; (case z9ga => exact rfl); (case z9gb => exact rfl); k_whole))
  k_with "m pyIter ref" => ((with_reducible show wpAny _ _ (pyIter (Value.ref _)) (fun it s₂ => LoopG _ _ _ _ _ _ _ _ it s₂) _ _); (with_reducible rename IsRange _ _ _ _ _ _ _ _ => rGZ); (with_reducible rename Fr _ _ _ _ => fGZ); (with_reducible rename News _ _ _ _ => nGZ); (with_unfolding_all first | refine iter_G (n := 2) (by rfl) rGZ (by first | decide | rfl) (by first | decide | rfl) fGZ nGZ ?_ | refine iter_G (n := 10) (by rfl) rGZ (by first | decide | rfl) (by first | decide | rfl) fGZ nGZ ?_); intro iZ l1Z s2Z hs2Z; (obtain ⟨h2Z, hs2Z⟩ := hs2Z); subst hs2Z)
  k_with "m RestG" => (with_unfolding_all first | (refine RestG.succ (fun tZ hZ tkZ FZ NZ => ?_)) | (refine RestG.zero (fun hZ tkZ FZ NZ => ?_)))
  k_with "m PostG" => (k_dflt (refine' PostG.headN ?z9pF ?z9pN ?z9pO ?_; (case z9pF => k_asm); (case z9pN => k_asm); (case z9pO => assumption)))
  k_with "m k_mem" => first | exact List.Mem.head _ | (refine List.mem_cons_of_mem _ ?_; k_mem)
  k_with "m call ref" => (k_here; (with_reducible show wpAny _ _ (call (Value.ref 131) [Value.bytes _ _]) _ _ _); k_dflt (refine' user_of_bytes ?z9B ?z9F ?z9X ?z9N ?z9T ?z9hk ?z9hhb ?z9hhlen ?z9hhz ?z9hd ?z9hu ?_; (case z9B => k_asm); (case z9F => k_asm); (case z9X => k_asm); (case z9N => k_asm); (case z9T => k_asm); (case z9hk => first | exact rfl | assumption); (case z9hhb => kba_ints); (case z9hhlen => first | omega | kba_size | l_fact); (case z9hhz => first | omega | kba_size | l_fact); (case z9hd => ktr_room); (case z9hu => ktr_units); k_whole); intro r0Z r1Z hZ tkZ hRZ FZ NZ; (try dsimp only); (try k_sweep); walk_say "BY user_of_bytes")
  k_with "m call ref" => (k_here; (with_reducible show wpAny _ _ (call (Value.ref 131) [Value.ref _]) _ _ _); k_dflt (refine' user_of_ba ?z9B ?z9F ?z9X ?z9N ?z9T ?z9hk ?z9hhx ?z9hhb ?z9hhlen ?z9hhz ?z9hd ?z9hu ?_; (case z9B => k_asm); (case z9F => k_asm); (case z9X => k_asm); (case z9N => k_asm); (case z9T => k_asm); (case z9hk => first | exact rfl | assumption); (case z9hhx => k_mem); (case z9hhb => kba_ints); (case z9hhlen => first | omega | kba_size | l_fact); (case z9hhz => first | omega | kba_size | l_fact); (case z9hd => ktr_room); (case z9hu => ktr_units); k_whole); intro r0Z r1Z hZ tkZ hRZ FZ NZ; (try dsimp only); (try k_sweep); walk_say "BY user_of_ba")
  k_with "m call ref" => (k_here; (with_reducible show wpAny _ _ (call (Value.ref 96) [Value.bytes _ _, Value.int _ _]) _ _ _); k_dflt (refine' rf32_bytes ?z9B ?z9F ?z9X ?z9N ?z9T ?z9hk ?z9hhb ?z9hh0 ?z9hh1 ?z9hhz ?z9hd ?z9hu ?_; (case z9B => k_asm); (case z9F => k_asm); (case z9X => k_asm); (case z9N => k_asm); (case z9T => k_asm); (case z9hk => first | exact rfl | assumption); (case z9hhb => kba_ints); (case z9hh0 => first | omega | kba_size | l_fact); (case z9hh1 => first | omega | kba_size | l_fact); (case z9hhz => first | omega | kba_size | l_fact); (case z9hd => ktr_room); (case z9hu => ktr_units); k_whole); intro r0Z hZ tkZ hR0Z hR1Z FZ NZ; (try dsimp only); (try k_sweep); walk_say "BY rf32_bytes")
  k_with "m call ref" => (k_here; (with_reducible show wpAny _ _ (call (Value.ref 96) [Value.ref _, Value.int _ _]) _ _ _); k_dflt (refine' rf32_ba ?z9B ?z9F ?z9X ?z9N ?z9T ?z9hk ?z9hhx ?z9hhb ?z9hh0 ?z9hh1 ?z9hhz ?z9hd ?z9hu ?_; (case z9B => k_asm); (case z9F => k_asm); (case z9X => k_asm); (case z9N => k_asm); (case z9T => k_asm); (case z9hk => first | exact rfl | assumption); (case z9hhx => k_mem); (case z9hhb => kba_ints); (case z9hh0 => first | omega | kba_size | l_fact); (case z9hh1 => first | omega | kba_size | l_fact); (case z9hhz => first | omega | kba_size | l_fact); (case z9hd => ktr_room); (case z9hu => ktr_units); k_whole); intro r0Z hZ tkZ hR0Z hR1Z FZ NZ; (try dsimp only); (try k_sweep); walk_say "BY rf32_ba")
  k_with "m call ref" => (k_here; (with_reducible show wpAny _ _ (call (Value.ref 103) [Value.bytes _ _, Value.int _ _]) _ _ _); k_dflt (refine' rf64_bytes ?z9B ?z9F ?z9X ?z9N ?z9T ?z9hk ?z9hhb ?z9hh0 ?z9hh1 ?z9hhz ?z9hd ?z9hu ?_; (case z9B => k_asm); (case z9F => k_asm); (case z9X => k_asm); (case z9N => k_asm); (case z9T => k_asm); (case z9hk => first | exact rfl | assumption); (case z9hhb => kba_ints); (case z9hh0 => first | omega | kba_size | l_fact); (case z9hh1 => first | omega | kba_size | l_fact); (case z9hhz => first | omega | kba_size | l_fact); (case z9hd => ktr_room); (case z9hu => ktr_units); k_whole); intro r0Z hZ tkZ hR0Z hR1Z FZ NZ; (try dsimp only); (try k_sweep); walk_say "BY rf64_bytes")
  k_with "m call ref" => (k_here; (with_reducible show wpAny _ _ (call (Value.ref 103) [Value.ref _, Value.int _ _]) _ _ _); k_dflt (refine' rf64_ba ?z9B ?z9F ?z9X ?z9N ?z9T ?z9hk ?z9hhx ?z9hhb ?z9hh0 ?z9hh1 ?z9hhz ?z9hd ?z9hu ?_; (case z9B => k_asm); (case z9F => k_asm); (case z9X => k_asm); (case z9N => k_asm); (case z9T => k_asm); (case z9hk => first | exact rfl | assumption); (case z9hhx => k_mem); (case z9hhb => kba_ints); (case z9hh0 => first | omega | kba_size | l_fact); (case z9hh1 => first | omega | kba_size | l_fact); (case z9hhz => first | omega | kba_size | l_fact); (case z9hd => ktr_room); (case z9hu => ktr_units); k_whole); intro r0Z hZ tkZ hR0Z hR1Z FZ NZ; (try dsimp only); (try k_sweep); walk_say "BY rf64_ba")
  k_with "m call ref" => (k_here; (with_reducible show wpAny _ _ (call (Value.ref 138) [Value.bytes _ _]) _ _ _); k_dflt (refine' tag_of_bytes ?z9B ?z9F ?z9X ?z9N ?z9T ?z9hk ?z9hhb ?z9hhlen ?z9hhz ?z9hd ?z9hu ?_; (case z9B => k_asm); (case z9F => k_asm); (case z9X => k_asm); (case z9N => k_asm); (case z9T => k_asm); (case z9hk => first | exact rfl | assumption); (case z9hhb => kba_ints); (case z9hhlen => first | omega | kba_size | l_fact); (case z9hhz => first | omega | kba_size | l_fact); (case z9hd => ktr_room); (case z9hu => ktr_units); k_whole); intro r0Z hZ tkZ hR0Z hR1Z FZ NZ; (try dsimp only); (try k_sweep); walk_say "BY tag_of_bytes")
  k_with "m call ref" => (k_here; (with_reducible show wpAny _ _ (call (Value.ref 138) [Value.ref _]) _ _ _); k_dflt (refine' tag_of_ba ?z9B ?z9F ?z9X ?z9N ?z9T ?z9hk ?z9hhx ?z9hhb ?z9hhlen ?z9hhz ?z9hd ?z9hu ?_; (case z9B => k_asm); (case z9F => k_asm); (case z9X => k_asm); (case z9N => k_asm); (case z9T => k_asm); (case z9hk => first | exact rfl | assumption); (case z9hhx => k_mem); (case z9hhb => kba_ints); (case z9hhlen => first | omega | kba_size | l_fact); (case z9hhz => first | omega | kba_size | l_fact); (case z9hd => ktr_room); (case z9hu => ktr_units); k_whole); intro r0Z hZ tkZ hR0Z hR1Z FZ NZ; (try dsimp only); (try k_sweep); walk_say "BY tag_of_ba")
  k_with "m call ref" => (k_here; (with_reducible show wpAny _ _ (call (Value.ref 110) [Value.int _ _, Value.int _ _]) _ _ _); k_dflt (refine' pack_tag_c ?z9B ?z9F ?z9X ?z9N ?z9T ?z9hk ?z9hh0 ?z9hh1 ?z9hh2 ?z9hd ?z9hu ?_; (case z9B => k_asm); (case z9F => k_asm); (case z9X => k_asm); (case z9N => k_asm); (case z9T => k_asm); (case z9hk => first | exact rfl | assumption); (case z9hh0 => first | omega | kba_size | l_fact); (case z9hh1 => first | omega | kba_size | l_fact); (case z9hh2 => first | omega | kba_size | l_fact); (case z9hd => ktr_room); (case z9hu => ktr_units); k_whole); intro r0Z hZ tkZ  FZ NZ; (try dsimp only); (try k_sweep); walk_say "BY pack_tag_c")
  k_with "m call ref" => (k_here; (with_reducible show wpAny _ _ (call (Value.ref 82) [Value.int _ _]) _ _ _); k_dflt (refine' pf32 ?z9B ?z9F ?z9X ?z9N ?z9T ?z9hk ?z9hh0 ?z9hh1 ?z9hd ?z9hu ?_; (case z9B => k_asm); (case z9F => k_asm); (case z9X => k_asm); (case z9N => k_asm); (case z9T => k_asm); (case z9hk => first | exact rfl | assumption); (case z9hh0 => first | omega | kba_size | l_fact); (case z9hh1 => first | omega | kba_size | l_fact); (case z9hd => ktr_room); (case z9hu => ktr_units); k_whole); intro r0Z r1Z hZ tkZ hR0Z FZ NZ; (try dsimp only); (try k_sweep); walk_say "BY pf32")
  k_with "m call ref" => (k_here; (with_reducible show wpAny _ _ (call (Value.ref 89) [Value.int _ _]) _ _ _); k_dflt (refine' pf64 ?z9B ?z9F ?z9X ?z9N ?z9T ?z9hk ?z9hh0 ?z9hh1 ?z9hd ?z9hu ?_; (case z9B => k_asm); (case z9F => k_asm); (case z9X => k_asm); (case z9N => k_asm); (case z9T => k_asm); (case z9hk => first | exact rfl | assumption); (case z9hh0 => first | omega | kba_size | l_fact); (case z9hh1 => first | omega | kba_size | l_fact); (case z9hd => ktr_room); (case z9hu => ktr_units); k_whole); intro r0Z r1Z hZ tkZ hR0Z FZ NZ; (try dsimp only); (try k_sweep); walk_say "BY pf64")
  k_with "m call ref" => (k_here; (with_reducible show wpAny _ _ (call (Value.ref 117) [Value.bytes _ _, Value.int _ _, Value.int _ _]) _ _ _); k_dflt (refine' make_ikey_bytes ?z9B ?z9F ?z9X ?z9N ?z9T ?z9hk ?z9hhb ?z9hhz ?z9hh0 ?z9hh1 ?z9hh2 ?z9hd ?z9hu ?_; (case z9B => k_asm); (case z9F => k_asm); (case z9X => k_asm); (case z9N => k_asm); (case z9T => k_asm); (case z9hk => first | exact rfl | assumption); (case z9hhb => kba_ints); (case z9hhz => first | omega | kba_size | l_fact); (case z9hh0 => first | omega | kba_size | l_fact); (case z9hh1 => first | omega | kba_size | l_fact); (case z9hh2 => first | omega | kba_size | l_fact); (case z9hd => ktr_room); (case z9hu => ktr_units); k_whole); intro r0Z r1Z hZ tkZ hR0Z FZ NZ; (try dsimp only); (try k_sweep); walk_say "BY make_ikey_bytes")
  k_with "m call ref" => (k_here; (with_reducible show wpAny _ _ (call (Value.ref 117) [Value.ref _, Value.int _ _, Value.int _ _]) _ _ _); k_dflt (refine' make_ikey_ba ?z9B ?z9F ?z9X ?z9N ?z9T ?z9hk ?z9hhx ?z9hhb ?z9hhz ?z9hh0 ?z9hh1 ?z9hh2 ?z9hd ?z9hu ?_; (case z9B => k_asm); (case z9F => k_asm); (case z9X => k_asm); (case z9N => k_asm); (case z9T => k_asm); (case z9hk => first | exact rfl | assumption); (case z9hhx => k_mem); (case z9hhb => kba_ints); (case z9hhz => first | omega | kba_size | l_fact); (case z9hh0 => first | omega | kba_size | l_fact); (case z9hh1 => first | omega | kba_size | l_fact); (case z9hh2 => first | omega | kba_size | l_fact); (case z9hd => ktr_room); (case z9hu => ktr_units); k_whole); intro r0Z r1Z hZ tkZ hR0Z FZ NZ; (try dsimp only); (try k_sweep); walk_say "BY make_ikey_ba")
  k_with "m call ref" => (k_here; (with_reducible show wpAny _ _ (call (Value.ref 152) [Value.ref _, Value.bytes _ _, Value.bytes _ _]) _ _ _); k_dflt (refine' cmp_plain ?z9B ?z9F ?z9X ?z9N ?z9T ?z9hk  ?z9hd ?z9hu ?_; (case z9B => k_asm); (case z9F => k_asm); (case z9X => k_asm); (case z9N => k_asm); (case z9T => k_asm); (case z9hk => first | exact rfl | assumption);  (case z9hd => ktr_room); (case z9hu => ktr_units); k_whole); intro r0Z hZ tkZ  FZ NZ; (try dsimp only); (try k_sweep); walk_say "BY cmp_plain")
  k_with "m call ref" => (k_here; (with_reducible show wpAny _ _ (call (Value.ref 286) [Value.bytes _ _, Value.bytes _ _]) _ _ _); k_dflt (refine' side_bytes ?z9B ?z9F ?z9X ?z9N ?z9T ?z9hk  ?z9hd ?z9hu ?_; (case z9B => k_asm); (case z9F => k_asm); (case z9X => k_asm); (case z9N => k_asm); (case z9T => k_asm); (case z9hk => first | exact rfl | assumption);  (case z9hd => ktr_room); (case z9hu => ktr_units); k_whole); intro r0Z hZ tkZ  FZ NZ; (try dsimp only); (try k_sweep); walk_say "BY side_bytes")
  k_with "m call ref" => (k_here; (with_reducible show wpAny _ _ (call (Value.ref 159) [Value.ref _, Value.bytes _ _, Value.bytes _ _]) _ _ _); k_dflt (refine' sep_bytes ?z9B ?z9F ?z9X ?z9N ?z9T ?z9hk  ?z9hd ?z9hu ?_; (case z9B => k_asm); (case z9F => k_asm); (case z9X => k_asm); (case z9N => k_asm); (case z9T => k_asm); (case z9hk => first | exact rfl | assumption);  (case z9hd => ktr_room); (case z9hu => ktr_units); k_whole); intro r0Z hZ tkZ  FZ NZ; (try dsimp only); (try k_sweep); walk_say "BY sep_bytes")
  k_with "m call ref" => (k_here; (with_reducible show wpAny _ _ (call (Value.ref 159) [Value.ref _, Value.ref _, Value.bytes _ _]) _ _ _); k_dflt (refine' sep_ba ?z9B ?z9F ?z9X ?z9N ?z9T ?z9hk ?z9hhx ?z9hhb ?z9hhz ?z9hd ?z9hu ?_; (case z9B => k_asm); (case z9F => k_asm); (case z9X => k_asm); (case z9N => k_asm); (case z9T => k_asm); (case z9hk => first | exact rfl | assumption); (case z9hhx => k_mem); (case z9hhb => kba_ints); (case z9hhz => first | omega | kba_size | l_fact); (case z9hd => ktr_room); (case z9hu => ktr_units); k_whole); intro r0Z hZ tkZ  FZ NZ; (try dsimp only); (try k_sweep); walk_say "BY sep_ba")
  k_with "m call ref" => (k_here; (with_reducible show wpAny _ _ (call (Value.ref 166) [Value.ref _, Value.ref _]) _ _ _); k_dflt (refine' succ_ba ?z9B ?z9F ?z9X ?z9N ?z9T ?z9hk ?z9hhx ?z9hhb ?z9hhz ?z9hd ?z9hu ?_; (case z9B => k_asm); (case z9F => k_asm); (case z9X => k_asm); (case z9N => k_asm); (case z9T => k_asm); (case z9hk => first | exact rfl | assumption); (case z9hhx => k_mem); (case z9hhb => kba_ints); (case z9hhz => first | omega | kba_size | l_fact); (case z9hd => ktr_room); (case z9hu => ktr_units); k_whole); intro r0Z hZ tkZ  FZ NZ; (try dsimp only); (try k_sweep); walk_say "BY succ_ba")
  k_with "m call ref" => (k_here; (with_reducible show wpAny _ _ (call (Value.ref 286) [Value.ref _, Value.ref _]) _ _ _); k_dflt (refine' side_tup ?z9B ?z9F ?z9X ?z9N ?z9T ?z9hk ?z9hhx ?z9hhy ?z9hd ?z9hu ?_; (case z9B => k_asm); (case z9F => k_asm); (case z9X => k_asm); (case z9N => k_asm); (case z9T => k_asm); (case z9hk => first | exact rfl | assumption); (case z9hhx => k_mem); (case z9hhy => k_mem); (case z9hd => ktr_room); (case z9hu => ktr_units); k_whole); intro r0Z hZ tkZ  FZ NZ; (try dsimp only); (try k_sweep); walk_say "BY side_tup")
  k_with "m call ref" => (k_here; (with_reducible show wpAny _ _ (call (Value.ref 274) [Value.ref _, Value.int _ _]) _ _ _); k_dflt (refine' draw_c ?z9B ?z9F ?z9X ?z9N ?z9T ?z9hk ?z9hhx ?z9hhi ?z9hhp ?z9hh8 ?z9hha ?z9hh0 ?z9hh1 ?z9hd ?z9hu ?_; (case z9B => k_asm); (case z9F => k_asm); (case z9X => k_asm); (case z9N => k_asm); (case z9T => k_asm); (case z9hk => first | exact rfl | assumption); (case z9hhx => k_mem); (case z9hhi => assumption); (case z9hhp => first | omega | kba_size | l_fact); (case z9hh8 => first | omega | kba_size | l_fact); (case z9hha => assumption); (case z9hh0 => first | omega | kba_size | l_fact); (case z9hh1 => first | omega | kba_size | l_fact); (case z9hd => ktr_room); (case z9hu => ktr_units); k_whole); intro r0Z r1Z hZ tkZ hR0Z hR1Z FZ NZ; (try dsimp only); (try k_sweep); walk_say "BY draw_c")
  k_with "m call ref" => (k_here; (with_reducible show wpAny _ _ (call (Value.ref 279) [Value.int _ _, Value.bytes _ _]) _ _ _); k_dflt (refine' user_c ?z9B ?z9F ?z9X ?z9N ?z9T ?z9hk ?z9hhb ?z9hh5 ?z9hh0 ?z9hh1 ?z9hd ?z9hu ?_; (case z9B => k_asm); (case z9F => k_asm); (case z9X => k_asm); (case z9N => k_asm); (case z9T => k_asm); (case z9hk => first | exact rfl | assumption); (case z9hhb => first | kba_ints | exact rfl); (case z9hh5 => first | omega | kba_size | l_fact); (case z9hh0 => first | omega | kba_size | l_fact); (case z9hh1 => first | omega | kba_size | l_fact); (case z9hd => ktr_room); (case z9hu => ktr_units); k_whole); intro r0Z r1Z hZ tkZ hR0Z FZ NZ; (try dsimp only); (try k_sweep); walk_say "BY user_c")
  k_with "m call ref" => (k_here; (with_reducible show wpAny _ _ (call (Value.ref 291) [Value.bytes _ _, Value.int _ _, Value.int _ _]) _ _ _); k_dflt (refine' octets_c ?z9B ?z9F ?z9X ?z9N ?z9T ?z9hk ?z9hhb ?z9hh5 ?z9hh0 ?z9hh1 ?z9hk0 ?z9hk1 ?z9hd ?z9hu ?_; (case z9B => k_asm); (case z9F => k_asm); (case z9X => k_asm); (case z9N => k_asm); (case z9T => k_asm); (case z9hk => first | exact rfl | assumption); (case z9hhb => first | kba_ints | exact rfl); (case z9hh5 => first | omega | kba_size | l_fact); (case z9hh0 => first | omega | kba_size | l_fact); (case z9hh1 => first | omega | kba_size | l_fact); (case z9hk0 => first | omega | kba_size | l_fact); (case z9hk1 => first | omega | kba_size | l_fact); (case z9hd => ktr_room); (case z9hu => ktr_units); k_whole); intro r0Z r1Z hZ tkZ hR0Z FZ NZ; (try dsimp only); (try k_sweep); walk_say "BY octets_c")
  k_with "m call ref" => (k_here; (with_reducible show wpAny _ _ (call (Value.ref 110) [Value.int _ _, Value.int _ _]) _ _ _); k_dflt (refine' pack_bad ?z9B ?z9F ?z9X ?z9N ?z9T ?z9hk ?z9hhq ?z9hhk2 ?z9hhbad ?z9hd ?z9hu ?_; (case z9B => k_asm); (case z9F => k_asm); (case z9X => k_asm); (case z9N => k_asm); (case z9T => k_asm); (case z9hk => first | exact rfl | assumption); (case z9hhq => with_reducible assumption); (case z9hhk2 => with_reducible assumption); (case z9hhbad => with_reducible assumption); (case z9hd => ktr_room); (case z9hu => ktr_units); k_whole); intro eZ tZ vsZ gZ hZ tkZ FGZ SZ RZ UZ; (try dsimp only at SZ RZ UZ ⊢); walk_say "BY pack_bad")
  k_with "m call ref" => (k_here; (with_reducible show wpAny _ _ (call (Value.ref 117) [Value.bytes _ _, Value.int _ _, Value.int _ _]) _ _ _); k_dflt (refine' make_bad ?z9B ?z9F ?z9X ?z9N ?z9T ?z9hk ?z9hhq ?z9hhk2 ?z9hhbad ?z9hd ?z9hu ?_; (case z9B => k_asm); (case z9F => k_asm); (case z9X => k_asm); (case z9N => k_asm); (case z9T => k_asm); (case z9hk => first | exact rfl | assumption); (case z9hhq => with_reducible assumption); (case z9hhk2 => with_reducible assumption); (case z9hhbad => with_reducible assumption); (case z9hd => ktr_room); (case z9hu => ktr_units); k_whole); intro eZ tZ vsZ gZ hZ tkZ FGZ SZ RZ UZ; (try dsimp only at SZ RZ UZ ⊢); walk_say "BY make_bad")
  trivial
set_option maxHeartbeats 1000000 in
theorem option_c {w : World} {mean : ExcName → Option Value} {mg mb : Str → Option Value} {cn : Str} {cs : Scope} {a : Addr} {ccd : Value} {cl : List (Str × Addr)} {base : Heap} {L : Addr} {m : Str → Option Value} {s : Shared} {Q E : Value → Shared → Prop} {news : List (Addr × Obj)} {q k : Int} {t t₂ : Tok}
  (B : Below callerA base [] base) (F : Fr base L s.heap m) (X : (Mine.hd.heap_39 w.params).In base) (N : News base L s.heap news) (T : Top Mine.view (looseW Mine.view []) mean mg mb base) (hk : cs.kind = .function)
  (hq : q.natAbs.log2 < 1920)
  (hk2 : k.natAbs.log2 < 1920)
  (hbad : (q < 0 ∨ 72057594037927935 < q) ∨ (k ≠ 0 ∧ k ≠ 1))
  (hret : ∀ t' (h' : Heap) (tk' : Nat), Fr base L h' m → News base L h' news → Q (.int 2 t') { s with heap := h', toks := tk' }) :
  wpAny (model Challenge.rw_xw0260_01.row.prog w) (callerA.deeper (envX cn cs L a ccd cl)) (call (.ref 298) [.int q t, .int k t₂]) Q E s := by
  revert X; k_fill; intro X
  refine wpAny_call ?_
  k_dflt (refine' code_defS0X ?k1 ?k2 ?k3 ?k4 ?k5 ?kA ?k6 ?k7 ?k8 ?k9 ?kB ?_ ?cK ?c2 ?c3 ?c4 ?c5; (case kA => exact rfl); (case k2 => k_asm); (case k1 => k_asm); (case k3 => k_asm); (case k4 => k_asm); (case k5 => k_asm); (case k6 => k_is); (case k7 => k_is); (case k8 => k_room); (case k9 => exact BindsTo.of_eq rfl); (case kB => exact locs rfl); (case cK => assumption); (case c2 => exact rfl); (case c3 => exact rfl); (case c4 => exact rfl); (case c5 => decide); k_whole; intro g' L' h' FG' F' N' B' X' T' D'; (try dsimp only); (try k_fold))
  k_steps
  all_goals exact hret _ _ _ (by assumption) (by assumption)
theorem lines_45 : True := by
  k_with "m call ref" => (k_here; (with_reducible show wpAny _ _ (call (Value.ref 298) [Value.int _ _, Value.int _ _]) _ _ _); k_dflt (refine' option_c ?z9B ?z9F ?z9X ?z9N ?z9T ?z9hk ?z9hhq ?z9hhk2 ?z9hhbad ?_; (case z9B => k_asm); (case z9F => k_asm); (case z9X => k_asm); (case z9N => k_asm); (case z9T => k_asm); (case z9hk => first | exact rfl | assumption); (case z9hhq => with_reducible assumption); (case z9hhk2 => with_reducible assumption); (case z9hhbad => with_reducible assumption); k_whole); intro r0Z hZ tkZ  FZ NZ; (try dsimp only); (try k_sweep); walk_say "BY option_c")
  trivial

end Mine
end
section
open PySem PySem.W PySem.Calls PyProof.Rows
namespace Mine
/-- the keys of the heads -/
def KeysAre : List Value → List (Array UInt8 × Int × Int) → Prop
  | [], [] => True
  | v :: vs, h :: hs => (∃ (b : Array UInt8) (t : Tok), v = .bytes b t ∧ KeyOf b h.1 h.2.1 h.2.2) ∧ KeysAre vs hs
  | _, _ => False
theorem KeysAre.length : ∀ {vs hs}, KeysAre vs hs → vs.length = hs.length
  | [], [], _ => rfl
  | _ :: _, _ :: _, ⟨_, x⟩ => congrArg (· + 1) x.length
theorem KeysAre.snoc {v : Value} {h : Array UInt8 × Int × Int} (x : ∃ (b : Array UInt8) (t : Tok), v = .bytes b t ∧ KeyOf b h.1 h.2.1 h.2.2) : ∀ {vs hs}, KeysAre vs hs → KeysAre (vs ++ [v]) (hs ++ [h])
  | [], [], _ => ⟨x, trivial⟩
  | _ :: _, _ :: _, ⟨y, z⟩ => ⟨y, KeysAre.snoc x z⟩
theorem KeysAre.step {vs : List Value} {hs : List (Array UInt8 × Int × Int)} {i : Nat} {v : Value} {h : Array UInt8 × Int × Int} (K : KeysAre vs (hs.take i)) (e : hs[i]? = some h) (x : ∃ (b : Array UInt8) (t : Tok), v = .bytes b t ∧ KeyOf b h.1 h.2.1 h.2.2) : KeysAre (vs ++ [v]) (hs.take (i + 1)) := by
  rw [List.take_add_one, e]; exact K.snoc x
/-- what stands at a place of the lists of keys and heads -/
theorem row_at {rest : List (Addr × Obj)} : ∀ {kvs rs : List Value} {hs : List (Array UInt8 × Int × Int)}, KeysAre kvs hs → HeadsIn rest rs hs → ∀ i : Nat, i < kvs.length →
    ∃ (ua : Array UInt8) (q k : Int) (b : Array UInt8) (tb : Tok) (r : Addr) (t1 t2 t3 : Tok), kvs[i]? = some (.bytes b tb) ∧ KeyOf b ua q k ∧ rs[i]? = some (.ref r) ∧ (r, tripleObj ua t1 (0 - q) t2 (0 - k) t3) ∈ rest
  | [], _, _, _, _, _, h => absurd h (Nat.not_lt_zero _)
  | _ :: _, _, [], K, _, _, _ => (show False from K).elim
  | _ :: _, [], _ :: _, _, H, _, _ => (show False from H).elim
  | _ :: _, _ :: _, (ua, q, k) :: _, ⟨⟨b, tb, e, K⟩, _⟩, ⟨⟨r, t1, t2, t3, e2, m⟩, _⟩, 0, _ => ⟨ua, q, k, b, tb, r, t1, t2, t3, by rw [e]; rfl, K, by rw [e2]; rfl, m⟩
  | _ :: _, _ :: _, _ :: _, ⟨_, x⟩, ⟨_, y⟩, i + 1, h => row_at x y i (Nat.lt_of_succ_lt_succ h)
theorem small_of {x : Int} {n : Nat} (e : x = (n : Int)) (h : n < 1000) : Builtin.Range.small 0 x 1 = true := small_one (by omega) (by omega) (by omega) (by omega)
theorem rsize_of {x : Int} {n : Nat} (e : x = (n : Int)) : Builtin.Range.rangeSize 0 x 1 = (n : Int) := by rw [rangeSize_nat]; omega
theorem key_same {b b' ua : Array UInt8} {q k : Int} (K : KeyOf b ua q k) (K' : KeyOf b' ua q k) : b = b' := ints_inj (K.oct.trans K'.oct.symm)
theorem key_ne {b b' ua : Array UInt8} {q k : Int} (K : KeyOf b ua q k) (K' : KeyOf b' ua q k) (h : (b.toList != b'.toList) = true) : False := by
  rw [key_same K K'] at h; simp at h
theorem bytes_ne {b : Array UInt8} (h : (b.toList != b.toList) = true) : False := by simp at h
theorem key_back {b ua : Array UInt8} {q k : Int} (K : KeyOf b ua (0 - (0 - q)) (0 - (0 - k))) : KeyOf b ua q k := by
  rw [show 0 - (0 - q) = q from by omega, show 0 - (0 - k) = k from by omega] at K; exact K

end Mine
end
section
open PySem PySem.W PySem.Calls PyProof.Rows PySem.Spec
namespace Mine
section
variable {prog : Program} {w : World} {A : Around} {E : Value → Shared → Prop} {s : Shared} {env : Env} {h₀ : Heap} {target : Expr} {x : Str} {body : List Stmt} {Q : Flow → Shared → Prop} {R : (Str → Option Value) → Prop} {led full : List (Addr × Obj)}
/-- the turns over a written range: the ledger is the same at every turn -/
theorem loop_same {g : Heap} {I : Addr} {n : Nat} {m : Str → Option Value}
    (turn : ∀ i m t h tk J, i < n → R m → (∀ p ∈ led, p.1 ≠ J) → Fr g env.locals h (fun y => if y = x then some (.int (0 + (i : Int)) t) else m y) → News g env.locals h ((J, itR (0 + ((i + 1 : Nat) : Int)) ((n : Int) - ((i + 1 : Nat) : Int))) :: led) →
      wpAny (model prog w) A (execs body env) (PostG env.locals { s with heap := h, toks := tk } J (itR (0 + ((i + 1 : Nat) : Int)) ((n : Int) - ((i + 1 : Nat) : Int))) (fun g' m' news' => g' = g ∧ news' = led ∧ R m') Q) E { s with heap := h, toks := tk })
    (done : ∀ m h tk, R m → Fr g env.locals h m → News g env.locals h led → Q .next { s with heap := h, toks := tk })
    (init : R m) (off : ∀ p ∈ led, @LT.lt Nat _ p.1 I) : RestG prog w A E env x body Q s I 0 n n 0 g m led :=
  RestG.inv (P := fun _ m news => news = led ∧ R m) (fun i m news t h tk hi ⟨e, r⟩ o F N => by subst e; exact turn i m t h tk I hi r o F N) (fun m news h tk ⟨e, r⟩ F N => by subst e; exact done m h tk r F N) n 0 m led (Nat.zero_add n) ⟨rfl, init⟩ (fun p hp => Nat.ne_of_lt (off p hp))
theorem post_same {L J : Addr} {it : Obj} {s₁ : Shared} {h' g : Heap} {tk : Nat} {m' : Str → Option Value} (F : Fr g L h' m') (N : News g L h' full) (hsub : ∀ p ∈ (J, it) :: led, p ∈ full) (off : ∀ p ∈ led, p.1 ≠ J) (r : R m') :
    PostG L s₁ J it (fun g' m' news' => g' = g ∧ news' = led ∧ R m') Q .next { s₁ with heap := h', toks := tk } := PostG.at F (fun p hp => N p (hsub p hp)) off ⟨rfl, rfl, r⟩
/-- the turns over a sequence of the ledger: the ledger is the same at every turn -/
theorem items_same {I ax : Addr} {ic : String} {lo : Obj} {vs : List Value} {m : Str → Option Value}
    (turn : ∀ (i : Nat) v m h tk o J, vs[i]? = some v → R m → (∀ p ∈ led, p.1 ≠ J) → Fr h₀ env.locals h m → o.cls = .type ic → News h₀ env.locals h ((J, o) :: led) →
      wpAny (model prog w) A (assign target env v) (fun _ s₂ => wpAny (model prog w) A (execs body env) (UnrPostW h₀ env.locals { s with heap := h, toks := tk } [(J, o)] (fun m' n' => (ax, lo) ∈ n' ∧ n' = led ∧ R m') Q) E s₂) E { s with heap := h, toks := tk })
    (done : ∀ m h tk, R m → Fr h₀ env.locals h m → News h₀ env.locals h led → Q .next { s with heap := h, toks := tk })
    (init : R m) (off : ∀ p ∈ led, @LT.lt Nat _ p.1 I) : ItemsRest prog w A E h₀ env target body Q s [(I, ic)] [(ax, lo)] (vs.map .val) m led := by
  suffices H : ∀ xs i m, i ≤ vs.length → vs.drop i = xs → R m → ItemsRest prog w A E h₀ env target body Q s [(I, ic)] [(ax, lo)] (xs.map .val) m led from H vs 0 m (Nat.zero_le _) rfl init
  intro xs
  induction xs with
  | nil => intro i m hi e p; exact ItemsRest.zero fun h tk F N => done m h tk p F N
  | cons v xs ih =>
    intro i m hi e p
    have hl := congrArg List.length e
    rw [List.length_drop, List.length_cons] at hl
    have hv : vs[i]? = some v := by
      have := congrArg (·[0]?) e
      simpa using this
    have e' : vs.drop (i + 1) = xs := by
      have := congrArg (List.drop 1) e
      simpa [List.drop_drop] using this
    refine ItemsRest.val fun h tk F => AllObj.cons fun o hc => AllObj.nil fun N => ?_
    refine wpAny_mono (turn i v m h tk o I hv p (fun p hp => Nat.ne_of_lt (off p hp)) F hc N) (fun _ s₂ q => wpAny_mono q (fun f s₃ r => ?_) fun _ _ x => x) fun _ _ x => x
    cases f with
    | ret v => exact r
    | brk => exact r
    | next => obtain ⟨h', tk', m', n', e1, F', N', o', k, e2, p'⟩ := r; subst e2; exact ⟨h', tk', m', n', e1, F', N', o', ⟨k, trivial⟩, ih (i + 1) m' (by omega) e' p'⟩
    | cont => obtain ⟨h', tk', m', n', e1, F', N', o', k, e2, p'⟩ := r; subst e2; exact ⟨h', tk', m', n', e1, F', N', o', ⟨k, trivial⟩, ih (i + 1) m' (by omega) e' p'⟩
theorem unr_same {L J ax : Addr} {it lo : Obj} {s₁ : Shared} {h' g : Heap} {tk : Nat} {m' : Str → Option Value} (F : Fr g L h' m') (N : News g L h' full) (hsub : ∀ p ∈ (J, it) :: led, p ∈ full) (off : ∀ p ∈ led, p.1 ≠ J) (ha : (ax, lo) ∈ led) (r : R m') :
    UnrEndW g L s₁ [(J, it)] (fun m' n' => (ax, lo) ∈ n' ∧ n' = led ∧ R m') { s₁ with heap := h', toks := tk } :=
  ⟨h', tk, m', led, rfl, F, fun p hp => N p (hsub p hp), fun p hp q hq => by rw [List.mem_singleton.mp hq]; exact off p hp, ha, rfl, r⟩
/-- the turns that write octets of one bytearray -/
theorem loop_ba {g : Heap} {I a : Addr} {b : Array UInt8} {n : Nat} {m : Str → Option Value}
    (turn : ∀ (i : Nat) m t h tk J b', i < n → (KBw.bInts b').length = n → R m → (∀ p ∈ (a, baObj b') :: led, p.1 ≠ J) → Fr g env.locals h (fun y => if y = x then some (.int (0 + (i : Int)) t) else m y) → News g env.locals h ((J, itR (0 + ((i + 1 : Nat) : Int)) ((n : Int) - ((i + 1 : Nat) : Int))) :: (a, baObj b') :: led) →
      wpAny (model prog w) A (execs body env) (PostG env.locals { s with heap := h, toks := tk } J (itR (0 + ((i + 1 : Nat) : Int)) ((n : Int) - ((i + 1 : Nat) : Int))) (fun g' m' news' => g' = g ∧ ∃ b'', (KBw.bInts b'').length = n ∧ news' = (a, baObj b'') :: led ∧ R m') Q) E { s with heap := h, toks := tk })
    (done : ∀ m h tk b', (KBw.bInts b').length = n → R m → Fr g env.locals h m → News g env.locals h ((a, baObj b') :: led) → Q .next { s with heap := h, toks := tk })
    (init : R m) (hb : (KBw.bInts b).length = n) (off : ∀ p ∈ (a, baObj b) :: led, @LT.lt Nat _ p.1 I) : RestG prog w A E env x body Q s I 0 n n 0 g m ((a, baObj b) :: led) :=
  RestG.inv (P := fun _ m news => ∃ b', (KBw.bInts b').length = n ∧ news = (a, baObj b') :: led ∧ R m) (fun i m news t h tk hi ⟨b', l, e, r⟩ o F N => by subst e; exact turn i m t h tk I b' hi l r o F N) (fun m news h tk ⟨b', l, e, r⟩ F N => by subst e; exact done m h tk b' l r F N) n 0 m _ (Nat.zero_add n) ⟨b, hb, rfl, init⟩ (fun p hp => Nat.ne_of_lt (off p hp))
theorem post_ba {L J a : Addr} {b b0 : Array UInt8} {n : Nat} {it : Obj} {s₁ : Shared} {h' g : Heap} {tk : Nat} {m' : Str → Option Value} (F : Fr g L h' m') (N : News g L h' ((J, it) :: (a, baObj b) :: led)) (off : ∀ p ∈ (a, baObj b0) :: led, p.1 ≠ J) (hb : (KBw.bInts b).length = n) (r : R m') :
    PostG L s₁ J it (fun g' m' news' => g' = g ∧ ∃ b'', (KBw.bInts b'').length = n ∧ news' = (a, baObj b'') :: led ∧ R m') Q .next { s₁ with heap := h', toks := tk } := PostG.at F N (fun p hp => by rcases List.mem_cons.mp hp with rfl | h; exact off (a, baObj b0) (.head _); exact off p (.tail _ h)) ⟨rfl, b, hb, rfl, r⟩
end
theorem News.fourth {h₀ h : Heap} {L : Addr} {a b c d : Addr × Obj} {r : List (Addr × Obj)} (N : News h₀ L h (a :: b :: c :: d :: r)) : News h₀ L h (d :: a :: b :: c :: r) := fun p hp => by
  refine N p ?_
  simp only [List.mem_cons] at hp ⊢
  rcases hp with h | h | h | h | h
  · exact .inr (.inr (.inr (.inl h)))
  · exact .inl h
  · exact .inr (.inl h)
  · exact .inr (.inr (.inl h))
  · exact .inr (.inr (.inr (.inr h)))
theorem set_length {b : Array UInt8} {j : Nat} {v : UInt8} {n : Nat} (h : (KBw.bInts b).length = n) : (KBw.bInts (b.setIfInBounds j v)).length = n := by
  rw [KBw.ints_length] at h ⊢; simpa using h
theorem join_key {ua b c : Array UInt8} {q k : Int} (K : KeyOf b ua q k) {us ks : List Int} (hus : KBw.bInts ua = us) (hb : KBw.bInts b = ks) (h : KBw.bInts c = us ++ List.take (ks.length - clipAt ks.length ((ks.length : Int) - 8)) (List.drop (clipAt ks.length ((ks.length : Int) - 8)) ks)) : c = b := by
  have e : ks = us ++ le8 (q * 256 + k) := by rw [← hb, ← hus]; exact K.oct
  have hl : ks.length = us.length + 8 := by rw [e, List.length_append, le8_length]
  have hc : clipAt ks.length ((ks.length : Int) - 8) = us.length := by
    have := clip_less (n := ks.length) (k := 8) (by omega)
    rw [show ((8 : Nat) : Int) = 8 from rfl] at this
    rw [this]; omega
  refine ints_inj (h.trans ?_)
  rw [hc, hb]
  have hd : List.drop us.length ks = le8 (q * 256 + k) := by rw [e, List.drop_left]
  rw [hd, List.take_of_length_le (by rw [le8_length]; omega), ← e]
theorem pow_three {n : Nat} (h : n ≤ 3) : (256 : Int) ^ n = 1 ∨ (256 : Int) ^ n = 256 ∨ (256 : Int) ^ n = 65536 ∨ (256 : Int) ^ n = 16777216 := by
  match n, h with
  | 0, _ => exact .inl rfl
  | 1, _ => exact .inr (.inl rfl)
  | 2, _ => exact .inr (.inr (.inl rfl))
  | 3, _ => exact .inr (.inr (.inr rfl))
theorem far_ok (v : Int) : ∃ far, 1 + v / 7 % 1000 * 256 ^ (v / 7000 % 4).toNat = far ∧ 1 ≤ far ∧ far < 100000000000 := by
  refine ⟨_, rfl, ?_⟩
  have h := pow_three (n := (v / 7000 % 4).toNat) (by omega)
  rcases h with h | h | h | h <;> rw [h] <;> omega
theorem log_ok {x : Int} (h0 : -1000000000000000000 < x) (h1 : x < 1000000000000000000) : x.natAbs.log2 < 1920 := by
  by_cases hx : x.natAbs = 0
  · rw [hx]; decide
  · have h : x.natAbs < 2 ^ 60 := by
      have : (2 : Nat) ^ 60 = 1152921504606846976 := by decide
      omega
    have h2 := (Nat.log2_lt hx).mpr h
    omega
theorem short_size {f : Int → Int} {z : Int} (z0 : 0 ≤ z) (z7 : z ≤ 7) : (byteArr ((rangeKs 0 (z - 0).toNat).map f)).size < 8 := by
  have h : (byteArr ((rangeKs 0 (z - 0).toNat).map f)).size = ((rangeKs 0 (z - 0).toNat).map f).length := by simp [byteArr]
  rw [h, List.length_map, rangeKs_length]
  omega

end Mine
end
section
open PySem PySem.W PySem.Calls PyProof.Rows
namespace Mine
open Builtin
theorem lookup_ba_new : typeLookup (.type "bytearray") "__new__" = pure (some (.builtin "bytearray.__new__")) := by rw [typeLookup_type, builtinLookup_eq_fast]; kernel_rfl
theorem mro_ba : mroOf (.type "bytearray") = pure [.type "bytearray", .type "object"] := by rw [mroOf_type]; kernel_rfl
theorem slot_ba_init : Slot "bytearray" "__init__" "bytearray.__init__" :=
  .of (owner := "bytearray") (n := "__init__") (by rw [typeLookup_type, builtinLookup_eq_fast]; kernel_rfl) (by decide +kernel) (by decide +kernel) (by decide +kernel)
    (by first | exact .inl (by decide +kernel) | exact .inr (by decide +kernel)) (by rw [isSubtype_type]; kernel_rfl)
theorem slot_ba_append : Slot "bytearray" "append" "bytearray.append" :=
  .of (owner := "bytearray") (n := "append") (by rw [typeLookup_type, builtinLookup_eq_fast]; kernel_rfl) (by decide +kernel) (by decide +kernel) (by decide +kernel)
    (by first | exact .inl (by decide +kernel) | exact .inr (by decide +kernel)) (by rw [isSubtype_type]; kernel_rfl)
theorem called_ba : TypeCalled "bytearray" "bytearray.__new__" "bytearray.__init__" :=
  ⟨by decide +kernel, by decide +kernel, ⟨_, _, mro_ba⟩, madeBy_type mro_ba lookup_ba_new (by decide +kernel), by decide +kernel, by rw [isSubtype_type]; kernel_rfl, slot_ba_init⟩
theorem typeCall_ba (a : Value) : checkTypeCall "bytearray" ⟨[a], []⟩ = pure () := by kernel_rfl
theorem newCall_ba (a : Value) : checkBuiltinCall "bytearray.__new__" ⟨[.type "bytearray", a], []⟩ = pure () := by kernel_rfl
theorem entry_ba_new : entryFor table "bytearray.__new__" = some Builtin.«list.__new__» := entryFor_alias (id' := "list.__new__") (by kernel_rfl) (by first | rfl | decide +kernel) (by decide +kernel) (by kernel_rfl)
theorem entry_ba_init : entryFor table "bytearray.__init__" = some Builtin.«bytearray.__init__» := entryFor_of_tree (by kernel_rfl)
theorem entry_ba_append : entryFor table "bytearray.append" = some Builtin.«bytearray.append» := entryFor_of_tree (by kernel_rfl)
theorem args_ba_init (a b : Value) : argsOk "bytearray.__init__" ⟨[a, b], []⟩ := by
  unfold argsOk; rw [signature?_of (id := "bytearray.__init__") (n := ['_', '_', 't', 'i', 'n', 'i', '_', '_']) (o := ['y', 'a', 'r', 'r', 'a', 'e', 't', 'y', 'b']) (by kernel_rfl) owner_ba]; kernel_rfl
theorem args_ba_append (a b : Value) : argsOk "bytearray.append" ⟨[a, b], []⟩ := by
  unfold argsOk; rw [signature?_of (id := "bytearray.append") (n := ['d', 'n', 'e', 'p', 'p', 'a']) (o := ['y', 'a', 'r', 'r', 'a', 'e', 't', 'y', 'b']) (by kernel_rfl) owner_ba]; kernel_rfl
theorem plain_ba_new : plainId "bytearray.__new__" = true := by decide +kernel
theorem plain_ba_init : plainId "bytearray.__init__" = true := by decide +kernel
theorem plain_ba_append : plainId "bytearray.append" = true := by decide +kernel
theorem plainAttrs_ba : PlainAttrs "bytearray" :=
  ⟨⟨"bytearray.__getattribute__", by rw [typeLookup_type, builtinLookup_eq_fast]; kernel_rfl, by decide +kernel⟩, by rw [typeLookup_type, builtinLookup_eq_fast]; kernel_rfl⟩
theorem kind_ba_append : typeOf (.builtin "bytearray.append") = pure (.type "method_descriptor") := by kernel_rfl
theorem look_bytes_index : typeLookup (.type "bytes") "__index__" = pure none := by rw [typeLookup_type, builtinLookup_eq_fast]; kernel_rfl
theorem look_bytes_buffer : typeLookup (.type "bytes") "__buffer__" = pure (some (.builtin "bytes.__buffer__")) := by rw [typeLookup_type, builtinLookup_eq_fast]; kernel_rfl
theorem look_bytes_release : typeLookup (.type "bytes") "__release_buffer__" = pure none := by rw [typeLookup_type, builtinLookup_eq_fast]; kernel_rfl
theorem bind_ba_init (v : Value) : Bytes.bindOptional "bytearray.__init__" "bytearray" ["source", "encoding", "errors"] [v] [] = pure [some v, none, none] := by kernel_rfl
/-- a code run under one written stack -/
def codeX (M : Model) (Γ : Ctx) (R : Result → Shared → Prop) (s : Shared) : Prop := ∀ p, wpCode M Γ R p s
section
variable {α β : Type} {M : Model} {Γ : Ctx} {A : Around} {E : Value → Shared → Prop} {s : Shared}
theorem codeX_of_tree {R : Result → Shared → Prop} (h : wpX M Γ (M.den Γ.code) (fun fin s' => match fin with | .done f => R (.ok f) s' | .again c' => c'.quiet = true ∧ codeX M (Γ.goto c') R s') (fun e s' => R (.error e) s') s) : codeX M Γ R s := fun p => by
  rw [wpCode_iff_wp]
  refine Sem.wp_mono M Γ _ (fun fin p' s' h' => ?_) (fun _ _ _ h' => h') p s (h p)
  cases fin with
  | done f => exact h'
  | again c' => exact ⟨h'.1, h'.2 p'⟩
theorem wpX_runValue {c : Code} {Q : Value → Shared → Prop} (h : ∀ p, codeX M (Γ.enter c none p) (fun r s' => match r with | .ok (.ret v) => Q v s' | .ok _ => False | .error e => E e s') s) : wpX M Γ (runValue c) Q E s := fun p => by
  rw [Sem.wp_runValue]; exact h p p
theorem wpX_call {f : Value} {pos : List Value} {kw : List (Str × Value)} {Q : Value → Shared → Prop} (h : ∀ p, codeX M (Γ.enter (.call f ⟨pos, kw⟩) none p) (fun r s' => match r with | .ok (.ret v) => Q v s' | .ok _ => False | .error e => E e s') s) : wpX M Γ (call f pos kw) Q E s := wpX_runValue h
theorem wpX_holding {vs : List Value} {m : Sem α} {Q : α → Shared → Prop} (h : wpX M Γ m Q E s) : wpX M Γ (holding vs m) Q E s := fun p => by rw [Sem.wp_holding]; exact h p
theorem wpX_bindA {m : Sem α} {f : α → Sem β} {Q : β → Shared → Prop} (hin : Γ.In A) (h : wpAny M A m (fun a s' => wpX M Γ (f a) Q E s') E s) : wpX M Γ (m >>= f) Q E s := wpX_bind (wpX_of hin h)
theorem wpX_eq {m : Sem α} {a : α} {f : α → Sem β} {Q : β → Shared → Prop} (e : m = pure a) (h : wpX M Γ (f a) Q E s) : wpX M Γ (m >>= f) Q E s := by subst e; exact wpX_bind (wpX_pure h)
theorem wpX_if_false {c : Bool} {a b : Sem α} {Q : α → Shared → Prop} (hc : c = false) (h : wpX M Γ b Q E s) : wpX M Γ (if c = true then a else b) Q E s := by subst hc; exact h
theorem wpX_if_true {c : Bool} {a b : Sem α} {Q : α → Shared → Prop} (hc : c = true) (h : wpX M Γ a Q E s) : wpX M Γ (if c = true then a else b) Q E s := by subst hc; exact h
theorem wpX_rule {tag : String} {Q : Unit → Shared → Prop} (h : Q () s) : wpX M Γ (rule tag) Q E s := fun _ => h
theorem wpX_standAt {p : Pos} {Q : Unit → Shared → Prop} (h : Q () s) : wpX M Γ (standAt p) Q E s := fun _ => h
theorem wpX_point {Q : Unit → Shared → Prop} (h : Q () s) : wpX M Γ point Q E s := fun _ => h
theorem wpX_stack {k : List (Code × Pos) → Sem α} {Q : α → Shared → Prop} (h : ∀ p, wpX M Γ (k ((Γ.code, p) :: Γ.below)) Q E s) : wpX M Γ (stack >>= k) Q E s := fun p => by
  show Sem.wp _ Γ (Sem.bind stack k) _ _ p s
  unfold stack
  rw [Sem.wp_bind, Sem.wp_stack]
  exact h p p
end
section
variable {prog : Program} {w : World} {Γ : Ctx} {A : Around} {E : Value → Shared → Prop} {s : Shared} {a : Addr} {b : Array UInt8} {t : Tok}
theorem den_builtin {id : String} {args : Args} {f : Builtin} (h : entryFor table id = some f) : (model prog w).den (.builtin id args) = f args := by
  show (match entryFor table id with | some b => b args | none => unsupported ((withoutEnding? id "#data").getD id)) = _
  rw [h]
/-- the stack that a call out of the law's frame, itself alone under its caller, stands on -/
def Clean (l : List (Code × Pos)) : Prop := ∃ body env p1 p0, l = [(.func body env, p1), (.builtin "claim.caller" {}, p0)]
theorem exported_clean {id : String} {args : List Value} {Q : Bool → Shared → Prop} {l : List (Code × Pos)} (hc : Γ.code = .builtin id ⟨.ref a :: args, []⟩) (hid : id = "bytearray.__init__" ∨ id = "bytearray.append")
    (hl : Γ.below = l) (hl' : Clean l ∨ ∃ v p2 l', l = (.builtin "type.__call__" ⟨[.type "bytearray", v], []⟩, p2) :: l' ∧ Clean l') (h : Q false s) : wpX (model prog w) Γ (Bytes.exported (.ref a)) Q E s := by
  unfold Bytes.exported
  refine wpX_stack fun p => wpX_pure ?_
  rw [hl, hc]
  have key : ∀ x : Bool, x = false → Q x s := fun x hx => by rw [hx]; exact h
  refine key _ ?_
  rcases hid with rfl | rfl
  · show ((Bytes.sameRef (.ref a) (.ref a) && Bytes.decodersThatHold.contains "bytearray.__init__") || _) = false
    rw [show Bytes.decodersThatHold.contains "bytearray.__init__" = false by decide +kernel, Bool.and_false, Bool.false_or]
    rcases hl' with ⟨body, env, p1, p0, rfl⟩ | ⟨v, p2, l', rfl, body, env, p1, p0, rfl⟩ <;> rfl
  · show ((Bytes.sameRef (.ref a) (.ref a) && Bytes.decodersThatHold.contains "bytearray.append") || _) = false
    rw [show Bytes.decodersThatHold.contains "bytearray.append" = false by decide +kernel, Bool.and_false, Bool.false_or]
    rcases hl' with ⟨body, env, p1, p0, rfl⟩ | ⟨v, p2, l', rfl, body, env, p1, p0, rfl⟩ <;> rfl
theorem own_release {Q : Bool → Shared → Prop} (ho : s.heap.get? a = some (baObj b)) (h : Q false s) : wpAny (model prog w) A (Bytes.ownRelease (.ref a)) Q E s := by
  have own : ∀ (nm : String) (id' : String) {Q : Bool → Shared → Prop}, typeLookup (.type "bytearray") (nm : Str) = pure (some (.builtin id')) → id'.endsWith ("." ++ nm) = true → id'.dropRight (nm.length + 1) = "bytearray" → Q true s →
      wpAny (model prog w) A (Bytes.slotIsOwn (.ref a) nm) Q E s := by
    intro nm id' Q hl he hd hq
    unfold Bytes.slotIsOwn
    refine wpAny_bind (wpAny_specialOf (ba_type ho) hl ?_)
    dsimp only
    rw [he, hd]
    exact wpAny_isInstance (ba_type ho) sub_ba hq
  unfold Bytes.ownRelease
  exact wpAny_bind (own "__release_buffer__" _ look_ba_release (by decide +kernel) (by decide +kernel) (wpAny_pure h))
theorem exportsOf_ba {Q : Nat → Shared → Prop} (ho : s.heap.get? a = some (baObj b)) (h : Q 0 s) : wpAny (model prog w) A (Bytes.exportsOf (.ref a)) Q E s := by
  unfold Bytes.exportsOf
  exact wpAny_bind (wpAny_load ho (wpAny_pure h))
theorem buffer_bytes {id : String} {full : Bool} {Q : Option (Array UInt8) → Shared → Prop} (h : Q (some b) s) : wpAny (model prog w) A (Bytes.buffer? id (.bytes b t) full) Q E s := by
  have hT := typeIs_bytes s b t
  unfold Bytes.buffer?
  refine wpAny_bind (wpAny_specialOf hT look_bytes_buffer ?_)
  (try dsimp only)
  refine wpAny_bind ?_
  unfold Bytes.slotIsOwn
  refine wpAny_bind (wpAny_specialOf hT look_bytes_buffer ?_)
  (try dsimp only)
  rw [show String.endsWith "bytes.__buffer__" ("." ++ "__buffer__") = true by decide +kernel, show String.dropRight "bytes.__buffer__" (String.length "__buffer__" + 1) = "bytes" by decide +kernel]
  refine wpAny_isInstance hT F.bm_sub ?_
  refine bm_if_false rfl ?_
  refine wpAny_bind (wpAny_specialOf hT look_bytes_buffer ?_)
  (try dsimp only)
  refine wpAny_bind ?_
  unfold Bytes.ownRelease Bytes.slotIsOwn
  refine wpAny_bind (wpAny_bind (wpAny_specialOf hT look_bytes_release ?_))
  refine wpAny_pure (wpAny_pure ?_)
  refine bm_if_false rfl ?_
  refine wpAny_bind ?_
  unfold Bytes.payload Bytes.payload?
  refine wpAny_bind (wpAny_pure ?_)
  exact wpAny_pure (wpAny_pure h)
set_option maxHeartbeats 2000000 in
theorem init_X {R : Result → Shared → Prop} {l : List (Code × Pos)} (hB : Γ.Below A) (hc : Γ.code = .builtin "bytearray.__init__" ⟨[.ref a, .bytes b t], []⟩)
    (hl : Γ.below = l) (hl' : Clean l ∨ ∃ v p2 l', l = (.builtin "type.__call__" ⟨[.type "bytearray", v], []⟩, p2) :: l' ∧ Clean l') (ho : s.heap.get? a = some (baObj #[])) (hz : b.size ≤ sizeLine)
    (h : ∀ h', h'.get? a = some (baObj b) → Heap.SameBut a s.heap h' → R (.ok (.ret .none)) { s with heap := h' }) : codeX (model prog w) Γ R s := by
  refine codeX_of_tree ?_
  have hin : Γ.In (A.under Γ.code) := hB.in
  rw [hc, den_builtin entry_ba_init]
  rw [hc] at hin
  unfold Builtin.«bytearray.__init__»
  refine wpX_bindA hin (own_release ho ?_)
  refine wpX_if_false rfl ?_
  refine wpX_eq (bind_ba_init _) ?_
  refine wpX_eq (a := ()) rfl ?_
  refine wpX_eq (a := ()) rfl ?_
  refine wpX_bind ?_
  show wpX _ _ (Bytes.exported (.ref a) >>= fun r => _) _ _ _
  refine wpX_bind (exported_clean hc (.inl rfl) hl hl' ?_)
  show wpX _ _ (Bytes.exportsOf (.ref a) >>= fun r => _) _ _ _
  refine wpX_bindA hin (exportsOf_ba ho (wpX_pure ?_))
  refine wpX_if_false rfl ?_
  refine wpX_bindA hin (write_ba ho (by show (0 : Nat) ≤ _; omega) ?_)
  have ho1 : (s.heap.update a (Obj.mapBytearray fun _ => #[])).get? a = some (baObj #[]) := Heap.get?_update_self (Obj.mapBytearray fun _ => #[]) ho rfl
  show wpX _ _ (asStr? (.bytes b t) >>= fun r => _) _ _ _
  refine wpX_eq (rfl : asStr? (.bytes b t) = pure none) ?_
  refine wpX_if_false rfl ?_
  refine wpX_eq (a := ()) rfl ?_
  refine wpX_bindA hin (wpAny_specialOf (typeIs_bytes _ b t) look_bytes_index ?_)
  refine wpX_if_false rfl ?_
  show wpX _ _ (Bytes.buffer? "bytearray.__init__" (.bytes b t) true >>= fun r => _) _ _ _
  refine wpX_bindA hin (buffer_bytes ?_)
  refine wpX_bind (wpX_rule ?_)
  refine wpX_bindA hin (write_ba ho1 hz ?_)
  refine wpX_pure ?_
  refine h _ ?_ ?_
  · exact Heap.get?_update_self (Obj.mapBytearray fun _ => b) ho1 rfl
  · exact (Heap.SameBut.update ..).trans (Heap.SameBut.update ..)
end

end Mine
end
section
open PySem PySem.W PySem.Calls PyProof.Rows
namespace Mine
open Builtin
section
variable {prog : Program} {w : World} {Γ : Ctx} {A : Around} {E : Value → Shared → Prop} {s : Shared} {a : Addr} {b : Array UInt8} {t : Tok}
set_option maxRecDepth 1000000 in
set_option maxHeartbeats 4000000 in
theorem owner_ba_new : ("bytearray.__new__".splitOn ".__new__").headD "" = "bytearray" := by simp +decide [String.splitOn, String.splitOnAux]
theorem code_ba_new (v : Value) {Q₁ : Value → Shared → Prop}
    (h : Q₁ (.ref s.heap.objs.size) { s with heap := s.heap.push (baObj #[]) }) :
    codeAny (model prog w) A (.call (.builtin "bytearray.__new__") ⟨[.type "bytearray", v], []⟩) (wants Q₁ E) s := by
  refine codeAny_of_tree ?_
  show wpAny _ A.in1 (do checkBuiltinCall "bytearray.__new__" ⟨[.type "bytearray", v], []⟩; again (.builtin "bytearray.__new__" ⟨[.type "bytearray", v], []⟩)) _ _ s
  refine wpAny_bind (wpAny_of_eq (newCall_ba v) (wpAny_pure ⟨plainId_quiet plain_ba_new _, codeAny_builtin_stack entry_ba_new rfl fun p st => ?_⟩))
  rw [Around.under_plainId plain_ba_new _]
  dsimp only
  rw [owner_ba_new]
  refine wpAny_bind (wpAny_of_eq (rfl : isType (.type "bytearray") = pure true) ?_)
  refine bm_if_false rfl ?_
  refine wpAny_bind (wpAny_of_eq sub_ba ?_)
  refine bm_if_false rfl ?_
  show wpAny _ _ (pure (Data.bytearray #[]) >>= fun data => _) _ _ _
  refine wpAny_bind (wpAny_pure ?_)
  refine bm_if_true (by decide +kernel) ?_
  refine wpAny_bind (wpAny_newObj_type (wpAny_pure h) ?_)
  exact Nat.zero_le _
set_option maxHeartbeats 2000000 in
theorem call_ba_X {Q : Value → Shared → Prop} (hin : Γ.In A) (hcl : ∀ p, Clean ((Γ.code, p) :: Γ.below)) (hz : b.size ≤ sizeLine)
    (h : ∀ h', h'.get? s.heap.objs.size = some (baObj b) → Heap.SameBut s.heap.objs.size (s.heap.push (baObj #[])) h' → Q (.ref s.heap.objs.size) { s with heap := h' }) : wpX (model prog w) Γ (call (.type "bytearray") [.bytes b t]) Q E s := by
  refine wpX_call fun p1 => codeX_of_tree ?_
  have hB1 : (Γ.enter (.call (.type "bytearray") ⟨[.bytes b t], []⟩) none p1).Below (A.mark none) := hin.enter _ none p1 (by intro x; cases x)
  show wpX _ _ (callAny (.type "bytearray") ⟨[.bytes b t], []⟩) _ _ _
  refine wpX_pure ⟨Code.quiet_builtin _ (by decide +kernel), codeX_of_tree ?_⟩
  have hB2 := hB1.goto (.builtin "type.__call__" ⟨[.type "bytearray", .bytes b t], []⟩)
  have hin2 := hB2.in
  show wpX _ _ ((model prog w).den (.builtin "type.__call__" ⟨[.type "bytearray", .bytes b t], []⟩)) _ _ _
  rw [den_builtin F.entry_type_call]
  unfold Builtin.«type.__call__»
  refine wpX_if_false called_ba.notType ?_
  refine wpX_if_false called_ba.canCreate ?_
  refine wpX_eq (typeCall_ba _) ?_
  refine wpX_eq mro_ba ?_
  refine wpX_if_false rfl ?_
  refine wpX_eq called_ba.made ?_
  refine wpX_eq (a := .builtin "bytearray.__new__") rfl ?_
  refine wpX_bindA hin2 (wpAny_holding (wpAny_call (codeAny_mono (code_ba_new (E := fun _ _ => False) (.bytes b t) (Q₁ := fun v s' => v = .ref s.heap.objs.size ∧ s' = { s with heap := s.heap.push (baObj #[]) }) ⟨rfl, rfl⟩) fun r s₁ hr => ?_)))
  cases r with
  | error e => exact hr.elim
  | ok fl =>
    cases fl with
    | ret obj =>
      obtain ⟨e1, e2⟩ := hr
      subst e1 e2
      have ho : (s.heap.push (baObj #[])).get? s.heap.objs.size = some (baObj #[]) := Heap.get?_push_size _ rfl
      have hT : Shared.TypeIs { s with heap := s.heap.push (baObj #[]) } (.ref s.heap.objs.size) "bytearray" := ⟨_, ho, rfl⟩
      refine wpX_bindA hin2 (wpAny_isInstance hT sub_ba ?_)
      refine wpX_if_false rfl ?_
      refine wpX_bind (wpX_holding ?_)
      show wpX _ _ (callSpecial? (.ref s.heap.objs.size) "__init__" [.bytes b t] []) _ _ _
      unfold callSpecial?
      refine wpX_bindA hin2 (wpAny_specialOf hT slot_ba_init.lookup ?_)
      refine wpX_holding ?_
      refine wpX_eq (slot_ba_init.bind _) ?_
      show wpX _ _ (call (.builtin "bytearray.__init__") [.ref s.heap.objs.size, .bytes b t] [] >>= fun r => pure (some r)) _ _ _
      refine wpX_bind (wpX_call fun p2 => codeX_of_tree ?_)
      have hB3 : (((Γ.enter (.call (.type "bytearray") ⟨[.bytes b t], []⟩) none p1).goto (.builtin "type.__call__" ⟨[.type "bytearray", .bytes b t], []⟩)).enter (.call (.builtin "bytearray.__init__") ⟨[.ref s.heap.objs.size, .bytes b t], []⟩) none p2).Below _ := hin2.enter _ none p2 (by intro x; cases x)
      show wpX _ _ (do checkBuiltinCall "bytearray.__init__" ⟨[.ref s.heap.objs.size, .bytes b t], []⟩; again (.builtin "bytearray.__init__" ⟨[.ref s.heap.objs.size, .bytes b t], []⟩)) _ _ _
      refine wpX_bindA hB3.in (slot_ba_init.check _ _ _ _ _ _ _ _ hT (args_ba_init _ _) ?_)
      refine wpX_pure ⟨plainId_quiet plain_ba_init _, init_X (hB3.goto _) rfl rfl (.inr ⟨_, _, _, rfl, hcl p1⟩) ho hz fun h' hg hs => ?_⟩
      refine wpX_pure ?_
      refine wpX_if_false rfl ?_
      exact wpX_pure (h h' hg hs)
    | _ => exact hr.elim
end

end Mine
end
section
open PySem PySem.W PySem.Calls PyProof.Rows
namespace Mine
open Builtin
section
variable {prog : Program} {w : World} {Γ : Ctx} {A : Around} {E : Value → Shared → Prop} {s : Shared} {a : Addr} {b : Array UInt8} {t : Tok} {env : Env}
set_option maxHeartbeats 2000000 in
theorem append_X {v : Int} {Q : Value → Shared → Prop} (hin : Γ.In A) (hcl : ∀ p, Clean ((Γ.code, p) :: Γ.below)) (ho : s.heap.get? a = some (baObj b)) (h0 : 0 ≤ v) (h1 : v < 256) (hz : b.size + 1 ≤ sizeLine)
    (h : ∀ h', h'.get? a = some (baObj (b.push v.toNat.toUInt8)) → Heap.SameBut a s.heap h' → Q .none { s with heap := h' }) : wpX (model prog w) Γ (call (.builtin "bytearray.append") [.ref a, .int v t]) Q E s := by
  refine wpX_call fun p2 => codeX_of_tree ?_
  have hB3 : (Γ.enter (.call (.builtin "bytearray.append") ⟨[.ref a, .int v t], []⟩) none p2).Below (A.mark none) := hin.enter _ none p2 (by intro x; cases x)
  show wpX _ _ (do checkBuiltinCall "bytearray.append" ⟨[.ref a, .int v t], []⟩; again (.builtin "bytearray.append" ⟨[.ref a, .int v t], []⟩)) _ _ _
  refine wpX_bindA hB3.in (slot_ba_append.check _ _ _ _ _ _ _ _ (ba_type ho) (args_ba_append _ _) ?_)
  refine wpX_pure ⟨plainId_quiet plain_ba_append _, codeX_of_tree ?_⟩
  have hB4 := hB3.goto (.builtin "bytearray.append" ⟨[.ref a, .int v t], []⟩)
  have hin4 := hB4.in
  show wpX _ _ ((model prog w).den (.builtin "bytearray.append" ⟨[.ref a, .int v t], []⟩)) _ _ _
  rw [den_builtin entry_ba_append]
  unfold Builtin.«bytearray.append»
  refine wpX_eq (a := (.ref a, .int v t)) rfl ?_
  show wpX _ _ (Bytes.byteValue (.int v t) >>= fun c => _) _ _ _
  refine wpX_bindA hin4 (byte_seven h0 h1 ?_)
  refine wpX_bind ?_
  unfold Bytes.checkResize
  refine wpX_bind ?_
  show wpX _ _ (Bytes.exported (.ref a) >>= fun r => _) _ _ _
  refine wpX_bind (exported_clean rfl (.inr rfl) rfl (.inl (hcl p2)) ?_)
  show wpX _ _ (Bytes.exportsOf (.ref a) >>= fun r => _) _ _ _
  refine wpX_bindA hin4 (exportsOf_ba ho (wpX_pure ?_))
  refine wpX_if_false rfl (wpX_pure ?_)
  refine wpX_bindA hin4 (write_ba ho (by rw [Array.size_push]; exact hz) ?_)
  exact wpX_pure (h _ (Heap.get?_update_self (Obj.mapBytearray (·.push v.toNat.toUInt8)) ho rfl) (Heap.SameBut.update ..))
theorem callT_X {pos : Pos} {T : String} {e : Expr} {Q : Value → Shared → Prop} (hin : Γ.In A)
    (h : wpAny (model prog w) A (eval e env) (fun v s₁ => wpX (model prog w) Γ (call (.type T) [v]) Q E s₁) E s) :
    wpX (model prog w) Γ (callWith pos (.type T) [] [(false, eval e env)] []) Q E s := by
  unfold callWith
  refine wpX_bindA hin (wpAny_holding (Calls.evalArgs_plain (Calls.spliced_cons (wpAny_mono h (fun v s₁ h₁ => Calls.spliced_nil ?_) fun _ _ e => e))))
  refine wpX_bind (wpX_standAt ?_)
  simp only [List.any_cons, List.any_nil, Bool.or_false]
  refine wpX_bind (wpX_pure ?_)
  exact wpX_bind (wpX_mono h₁ (fun r s₂ hr => wpX_bind (wpX_holding (wpX_point (wpX_pure hr)))) fun _ _ x => x)
theorem callB_X {pos : Pos} {id : String} {o : Value} {e : Expr} {Q : Value → Shared → Prop} (hin : Γ.In A)
    (h : wpAny (model prog w) A (eval e env) (fun v s₁ => wpX (model prog w) Γ (call (.builtin id) [o, v]) Q E s₁) E s) :
    wpX (model prog w) Γ (callWith pos (.builtin id) [o] [(false, eval e env)] []) Q E s := by
  unfold callWith
  refine wpX_bindA hin (wpAny_holding (Calls.evalArgs_plain (Calls.spliced_cons (wpAny_mono h (fun v s₁ h₁ => Calls.spliced_nil ?_) fun _ _ e => e))))
  refine wpX_bind (wpX_standAt ?_)
  simp only [List.any_cons, List.any_nil, Bool.or_false]
  refine wpX_bind (wpX_pure ?_)
  exact wpX_bind (wpX_mono h₁ (fun r s₂ hr => wpX_bind (wpX_holding (wpX_point (wpX_pure hr)))) fun _ _ x => x)
/-- x = bytearray(e) -/
theorem assign_ba_X {x f : Str} {px pf pos cpos : Pos} {e : Expr} {Q : Flow → Shared → Prop} (hin : Γ.In A) (hcl : ∀ p, Clean ((Γ.code, p) :: Γ.below))
    (ht : backTo cpos (starEach [e] env) = [(false, eval e env)])
    (h : wpAny (model prog w) A (eval (.Name f pf) env) (fun fv s₁ => fv = .type "bytearray" ∧ wpAny (model prog w) A (eval e env) (fun v s₂ => ∃ b t, v = .bytes b t ∧ b.size ≤ sizeLine ∧
      ∀ h', h'.get? s₂.heap.objs.size = some (baObj b) → Heap.SameBut s₂.heap.objs.size (s₂.heap.push (baObj #[])) h' → wpAny (model prog w) A (storeName env x (.ref s₂.heap.objs.size)) (fun _ => Q .next) E { s₂ with heap := h' }) E s₁) E s)
    (hs : swapsWith (.Call (.Name f pf) [e] [] cpos) (some (.Name x px)) pos.line env = pure false) :
    wpX (model prog w) Γ (exec (.Assign [.Name x px] (.Call (.Name f pf) [e] [] cpos) pos) env) Q E s := by
  suffices H : wpX (model prog w) Γ (eval (.Call (.Name f pf) [e] [] cpos) env) (fun v s₁ => wpAny (model prog w) A (storeName env x v) (fun _ => Q .next) E s₁) E s from fun p => by
    simp only [exec_Assign_Name env x px _ pos hs, Sem.wp_bind', Sem.wp_cmd_standAt, Sem.wp_bindName, Sem.wp_pure']
    exact Sem.wp_mono _ Γ _ (fun v _ s₁ h₁ => h₁ Γ _ hin) (fun _ _ _ h' => h') _ _ (H _)
  rw [arm_eval_Call_Name']
  refine wpX_bindA hin (wpAny_mono h (fun fv s₁ h₁ => ?_) fun _ _ x => x)
  obtain ⟨rfl, h₁⟩ := h₁
  rw [ht]
  refine callT_X hin (wpAny_mono h₁ (fun v s₂ h₂ => ?_) fun _ _ x => x)
  obtain ⟨b, t, rfl, hz, h₂⟩ := h₂
  exact call_ba_X hin hcl hz h₂
/-- x.append(e) of a bytearray -/
theorem append_ba_X {x : Str} {px apos pos cpos : Pos} {e : Expr} {Q : Flow → Shared → Prop} (hin : Γ.In A) (hcl : ∀ p, Clean ((Γ.code, p) :: Γ.below))
    (ht : backTo cpos (starEach [e] env) = [(false, eval e env)]) (hline : (apos.endLine == cpos.line) = true)
    (h : wpAny (model prog w) A (eval (.Name x px) env) (fun ov s₁ => ∃ a b, ov = .ref a ∧ s₁.heap.get? a = some (baObj b) ∧ wpAny (model prog w) A (eval e env) (fun v s₂ => ∃ i t, v = .int i t ∧ 0 ≤ i ∧ i < 256 ∧ b.size + 1 ≤ sizeLine ∧ s₂.heap.get? a = some (baObj b) ∧
      ∀ h', h'.get? a = some (baObj (b.push i.toNat.toUInt8)) → Heap.SameBut a s₂.heap h' → Q .next { s₂ with heap := h' }) E s₁) E s)
    (hi : interactive env = false) (hs : swapsWith (.Call (.Attribute (.Name x px) "append" apos) [e] [] cpos) none pos.line env = pure false) :
    wpX (model prog w) Γ (exec (.Expr (.Call (.Attribute (.Name x px) "append" apos) [e] [] cpos) pos) env) Q E s := by
  rw [exec_Expr env _ pos hi hs]
  refine wpX_bind (wpX_standAt ?_)
  refine wpX_bind (wpX_mono (Q := fun v s' => v = .none ∧ Q .next s') (E := E) ?_ (fun v s' h' => ?_) fun _ _ x => x)
  · rw [arm_eval_Call, show attributeBase (.Name x px) "append" env (eval (.Name x px) env) = eval (.Name x px) env from rfl]
    refine wpX_bindA hin (wpAny_mono h (fun ov s₁ h₁ => ?_) fun _ _ x => x)
    obtain ⟨a, b, rfl, ho, h₁⟩ := h₁
    refine wpX_bind (wpX_standAt ?_)
    have hform : methodCallForm ([e].length + ([] : List Keyword).length) (backTo cpos (starEach [e] env)) (backToKw cpos (keywordEach [] env)) = true := by rw [ht]; rfl
    have hpos : methodCallPos true (.Name x px) env apos cpos = pure cpos := by unfold methodCallPos; simp [hline]
    unfold methodCall
    rw [hform]
    refine wpX_bindA hin (wpAny_holding (getMethod_builtin (ba_type ho) plainAttrs_ba slot_ba_append kind_ba_append (fun a' e' => ?_) ?_))
    · cases e'; exact ⟨_, ho, rfl⟩
    refine wpX_eq hpos ?_
    rw [ht]
    refine callB_X hin (wpAny_mono h₁ (fun v s₂ h₂ => ?_) fun _ _ x => x)
    obtain ⟨i, t, rfl, i0, i1, hz, ho2, h₂⟩ := h₂
    exact append_X hin hcl ho2 i0 i1 hz fun h' g1 g2 => ⟨rfl, h₂ h' g1 g2⟩
  · obtain ⟨rfl, h'⟩ := h'
    rw [dropValue_plain (by intro a e; cases e)]
    exact wpX_pure h'
end
section
variable {M : Model} {Γ : Ctx} {E : Value → Shared → Prop} {env : Env} {Q : Flow → Shared → Prop}
theorem execs_app {ys : List Stmt} : ∀ (xs : List Stmt) (p : Pos) (s : Shared), Sem.wp M Γ (execs xs env) (fun f _ s' => match f with | .next => wpX M Γ (execs ys env) Q E s' | f => Q f s') (fun e _ s' => E e s') p s →
    Sem.wp M Γ (execs (xs ++ ys) env) (fun f _ s' => Q f s') (fun e _ s' => E e s') p s
  | [], p, s, h => h p
  | x :: xs, p, s, h => by
    rw [List.cons_append, execs_cons, Sem.wp_bind']
    rw [execs_cons, Sem.wp_bind'] at h
    refine Sem.wp_mono _ _ _ (fun f p' s' h' => ?_) (fun _ _ _ x => x) _ _ h
    cases f with
    | next => exact execs_app xs p' s' h'
    | ret v => exact h'
    | brk => exact h'
    | cont => exact h'
theorem execs_cut {l : List Stmt} {s : Shared} (i n : Nat) (h : wpX M Γ (execs ((l.drop i).take n) env) (fun f s' => match f with | .next => wpX M Γ (execs (l.drop (i + n)) env) Q E s' | f => Q f s') E s) :
    wpX M Γ (execs (l.drop i) env) Q E s := fun p => by
  have e : l.drop i = (l.drop i).take n ++ l.drop (i + n) := by rw [← List.drop_drop, List.take_append_drop]
  rw [e]
  exact execs_app _ p s (h p)
theorem execs_one {st : Stmt} {s : Shared} (h : wpX M Γ (exec st env) Q E s) : wpX M Γ (execs [st] env) Q E s := by
  rw [execs_cons]
  refine wpX_bind (wpX_mono h (fun f s' h' => ?_) fun _ _ x => x)
  cases f <;> exact wpX_pure h'
end
theorem under_clean (p : Pos) (body : List Stmt) (env : Env) : ∀ p', Clean (((under p body env).code, p') :: (under p body env).below) := fun p' => ⟨body, env, p', p, rfl⟩
theorem made_ba {h₀ h h' : Heap} {L : Addr} {m : Str → Option Value} {news : List (Addr × Obj)} {o0 o : Obj} (F : Fr h₀ L h m) (N : News h₀ L h news) (hg : h'.get? h.objs.size = some o) (hs : Heap.SameBut h.objs.size (h.push o0) h') (hf : o0.isFreed = false := by rfl) :
    Fr h₀ L h' m ∧ News h₀ L h' ((h.objs.size, o) :: news) ∧ AllLt h.objs.size news := by
  have F1 := F.push o0
  have N1 := News.push F N o0 hf
  have z := N1 _ (.head _)
  refine ⟨F1.change hs z.2.1 z.2.2, fun p hp => ?_, allLt_of fun p hp => Heap.lt_size (N p hp).1⟩
  rcases List.mem_cons.mp hp with rfl | hp'
  · exact ⟨hg, z.2.1, z.2.2⟩
  · have y := N1 p (.tail _ hp')
    exact ⟨(hs.2 p.1 (Nat.ne_of_lt (Heap.lt_size (N p hp').1))).trans y.1, y.2⟩
theorem changed_ba {h₀ h h' : Heap} {L a : Addr} {m : Str → Option Value} {news : List (Addr × Obj)} {o1 o : Obj} (F : Fr h₀ L h m) (N : News h₀ L h ((a, o1) :: news)) (hd : ∀ p ∈ news, p.1 ≠ a) (hg : h'.get? a = some o) (hs : Heap.SameBut a h h') :
    Fr h₀ L h' m ∧ News h₀ L h' ((a, o) :: news) := by
  have z := N _ (.head _)
  refine ⟨F.change hs z.2.1 z.2.2, fun p hp => ?_⟩
  rcases List.mem_cons.mp hp with rfl | hp'
  · exact ⟨hg, z.2.1, z.2.2⟩
  · have y := N p (.tail _ hp')
    exact ⟨(hs.2 p.1 (hd p hp')).trans y.1, y.2⟩
theorem boot_ba : bootBuiltins "bytearray" = some (.type "bytearray") := by decide +kernel

end Mine
end
section
open PySem PySem.W PySem.Calls PyProof.Rows
namespace Mine
section
variable {prog : Program} {w : World} {A₀ : Around} {E : Value → Shared → Prop} {s' : Shared} {h₀ h : Heap} {outer : List Env} {L a e t : Addr} {m : Str → Option Value} {name : Str} {scope : Scope} {cd : Value} {cl : List (Str × Addr)}
  {vs : List Value} {b₀ : Stmt} {suite : List Stmt} {pos np : Pos} {rest : List ExceptHandler} {Q : Flow → Shared → Prop} {news : List (Addr × Obj)} {KF : Frag} {C : Addr} {bmB : List Value} {newId : String}
  {p : Program} {loose : List Str} {mg mb : Str → Option Value} {x : Str}
/-- an exception caught in a frame that has cells -/
theorem caught_X (K : Below A₀ h₀ outer h₀) (F : Fr h₀ L h m) (hsm : h.UpToSlots s'.heap) (R : RaisedK h₀ (envX name scope L a cd cl :: outer) e (.ref C) t vs news s'.heap)
    (X : KF.In h₀) (T : TopRead p loose mg mb h₀) (ex : nsIn KF mainGlobals x = some (some (.ref C))) (q : ktsIn KF C "BaseException" = true)
    (k : ∀ h', Fr h₀ L h' m → News h₀ L h' news → wpAny (model prog w) ((A₀.deeper (envX name scope L a cd cl)).mark (some (.ref e))) (execs (b₀ :: suite) (envX name scope L a cd cl)) Q E { s' with heap := h' })
    (hk : scope.kind = .function) (hx : (envX name scope L a cd cl).kindOf x = some .globalImplicit) (hd : (x == ("__debug__" : Str)) = false)
    (hE : PassesOwnAt (model prog w) ((A₀.deeper (envX name scope L a cd cl)).mark (some (.ref e))) (A₀.deeper (envX name scope L a cd cl)) (envX name scope L a cd cl) E) :
    wpAny (model prog w) (A₀.deeper (envX name scope L a cd cl)) (noteFrame (.ref e) (envX name scope L a cd cl))
      (fun _ s₂ => wpAny (model prog w) (A₀.deeper (envX name scope L a cd cl)) (setFlight (.ref e) none) (fun _ s₃ =>
        wpAny (model prog w) (A₀.deeper (envX name scope L a cd cl)) (handleBy (.ref e) (envX name scope L a cd cl) (.ExceptHandler (some (.Name x np)) none (b₀ :: suite) pos :: rest)) Q E s₃) E s₂) E s' := by
  obtain ⟨⟨B, hB, hl, hfl, hnew⟩, htup⟩ := R
  have hL : B.get? L = none := by
    obtain ⟨_, ⟨L', _, hf, hn', _⟩, _⟩ := hfl.2.2.1
    obtain rfl : L = L' := Option.some.inj hf
    exact hn'
  refine wpAny_looks_onW (Around.frames_deeper K.stack) rfl hfl fun h₄ hheld₄ hsm₄ => ?_
  refine wpAny_landsW hheld₄ fun h₅ hheld hsm₅' => ?_
  have hsm₅ := hsm₄.trans hsm₅'
  have hheld' := flyingW_base hB hheld
  have F₅ := F.of_stays hheld'.1 (hsm.trans hsm₅)
  obtain ⟨ob, hob, hobc⟩ := hheld'.there
  obtain ⟨nm, q', N, bs, bm, hdct, sn, sub, ab, col, dd, k0, k1, k2, k3, k5, newId, hC, hbase, hbT⟩ := kts_cls X q
  have hC₅ := F₅.keep _ _ hC
  refine wpAny_handleBy_cons (codeAny_handlers_test (nameX_K F₅ X T ex ?_ hk hx hd)) (by intro q; cases q)
  refine wpAny_excMatches_sub_self hC₅ hob hobc hbase (codeAny_handlers_suite ?_)
  refine lands_againW hheld fun h₆ hfl₆ hsm₆ => ?_
  have hfl₆' := flyingW_base hB hfl₆
  have F₆ := F.of_stays hfl₆'.1 ((hsm.trans hsm₅).trans hsm₆)
  exact wpAny_passesOwnAt hE (k h₆ F₆ fun q hq => ⟨hfl₆.1 _ _ (hl q hq).1, (fun z => by have := (hl q hq).1; rw [z, hL] at this; cases this), (hl q hq).2⟩)
end

end Mine
end
section
open PySem PySem.W PySem.Calls PyProof.Rows
namespace Mine
local macro_rules | `(tactic| walk_at $s:str) => `(tactic| k_extra $(Lean.Syntax.mkStrLit ("m " ++ s.getString)))
local macro_rules | `(tactic| k_mem) => `(tactic| k_extra "m k_mem")
local macro_rules | `(tactic| k_all) => `(tactic| k_extra "m k_all")
local macro_rules | `(tactic| boot_fact) => `(tactic| k_extra "m boot_fact")
theorem walk_46 : True := by
  w_top off
  trivial
/-- octets that are a key but for its kind -/
structure OddOf (b ua : Array UInt8) (s x : Int) : Prop where
  oct : KBw.bInts b = KBw.bInts ua ++ le8 (s * 256 + x)
  short : (KBw.bInts ua).length ≤ 5
  s0 : 0 ≤ s
  s1 : s ≤ 72057594037927935
  x0 : 2 ≤ x
  x1 : x ≤ 255
theorem OddOf.open {b ua : Array UInt8} {s k : Int} (K : OddOf b ua s k) : ∃ ks, ks = KBw.bInts ua ++ le8 (s * 256 + k) ∧ KBw.bInts b = ks ∧ 8 ≤ ks.length ∧ ks.length ≤ 13 := by
  refine ⟨_, rfl, K.oct, ?_, ?_⟩ <;> rw [List.length_append, le8_length] <;> have := K.short <;> omega
theorem OddOf.user {ua u : Array UInt8} {s k : Int} {ks : List Int} (e : ks = KBw.bInts ua ++ le8 (s * 256 + k)) (h : KBw.bInts u = ks.take (ks.length - 8)) : u = ua := by
  refine ints_inj (h.trans ?_)
  rw [e, List.length_append, le8_length, Nat.add_sub_cancel, List.take_left]
theorem OddOf.tag {b ua : Array UInt8} {s k : Int} (K : OddOf b ua s k) {ks : List Int} (e : ks = KBw.bInts ua ++ le8 (s * 256 + k)) : leV (ks.drop (ks.length - 8)) = s * 256 + k := by
  rw [e, List.length_append, le8_length, Nat.add_sub_cancel, List.drop_left, leV_le8]
  have := K.s0; have := K.x0; omega
theorem le8_kind {q k x : Int} (k0 : 0 ≤ k) (k1 : k ≤ 1) (x0 : 2 ≤ x) (x1 : x ≤ 255) : le8 (q * 256 + x) = x :: (le8 (q * 256 + k)).drop 1 := by
  rw [le8_cons q (Int.le_trans (by decide) x0) (Int.lt_of_le_of_lt x1 (by decide)), le8_cons q k0 (Int.lt_of_le_of_lt k1 (by decide))]
  rfl
theorem odd_key {ua b c : Array UInt8} {q k x : Int} (K : KeyOf b ua q k) {us ks : List Int} (hus : KBw.bInts ua = us) (hb : KBw.bInts b = ks) (x0 : 2 ≤ x) (x1 : x ≤ 255) (hx : ((x.toNat.toUInt8.toNat : Nat) : Int) = x)
    (h : KBw.bInts c = List.take (clipAt ks.length ((ks.length : Int) - 8)) ks ++ List.map (fun c => ((UInt8.toNat c : Nat) : Int)) [x.toNat.toUInt8] ++ List.take (ks.length - clipAt ks.length ((ks.length : Int) - 7)) (List.drop (clipAt ks.length ((ks.length : Int) - 7)) ks)) : OddOf c ua q x := by
  have e : ks = us ++ le8 (q * 256 + k) := by rw [← hb, ← hus]; exact K.oct
  have hl : ks.length = us.length + 8 := by rw [e, List.length_append, le8_length]
  have hc : clipAt ks.length ((ks.length : Int) - 8) = us.length := by
    have := clip_less (n := ks.length) (k := 8) (by omega)
    rw [show ((8 : Nat) : Int) = 8 from rfl] at this
    rw [this]; omega
  have hc7 : clipAt ks.length ((ks.length : Int) - 7) = us.length + 1 := by
    have := clip_less (n := ks.length) (k := 7) (by omega)
    rw [show ((7 : Nat) : Int) = 7 from rfl] at this
    rw [this]; omega
  refine ⟨h.trans ?_, K.short, K.s0, K.s1, x0, x1⟩
  rw [hc, hc7, hus, List.map_cons, List.map_nil, hx]
  have ht : List.take us.length ks = us := by rw [e, List.take_left]
  have hd : List.drop (us.length + 1) ks = (le8 (q * 256 + k)).drop 1 := by rw [e, ← List.drop_drop, List.drop_left]
  rw [ht, hd, List.take_of_length_le (by rw [List.length_drop, le8_length]; omega), le8_kind K.k0 K.k1 x0 x1, List.append_assoc]
  rfl
theorem lines_47 : True := by
  k_with_none
  k_with "m call type:bytes" => (k_here; (with_reducible show wpAny _ _ (call (Value.type _) [Value.bytes _ _]) _ _ _); refine bytes_bytes ?_)
  k_with "m call type:bytes" => (k_here; (with_reducible show wpAny _ _ (call (Value.type _) [Value.ref _]) _ _ _); k_dflt (refine' bytes_ba_K ?z9N ?z9m ?z9k ?z9z ?_; (case z9N => k_asm); (case z9m => k_mem); (case z9k => kba_ints); (case z9z => kba_size); k_whole); intro _ _)
  k_with "m call builtin:len" => (k_here; (with_reducible show wpAny _ _ (call (Value.builtin _) [Value.ref _]) _ _ _); k_dflt (refine' len_ba ?z9N ?z9m ?z9k ?z9z ?_; (case z9N => k_asm); (case z9m => k_mem); (case z9k => kba_ints); (case z9z => kba_size); k_whole))
  k_with "m subscriptTail" => (k_here; (with_reducible show wpAny _ _ (subscriptTail _ _ (Value.ref _) (Value.int _ _)) _ _ _); k_dflt (refine' item_ba ?z9N ?z9m ?z9k ?z9z ?z9l ?z9u ?_ ?z9hs ?z9ht; (case z9N => k_asm); (case z9m => k_mem); (case z9k => kba_ints); (case z9z => kba_size); (case z9l => kba_idx); (case z9u => kba_idx); (case z9hs => with_unfolding_all rfl); (case z9ht => intro _; with_unfolding_all rfl); k_whole); intro _ _ baLoZ baHiZ)
  k_with "m subscriptTail" => (k_here; (with_reducible show wpAny _ _ (subscriptTail _ (Expr.Slice _ _ none _) (Value.ref _) (Value.ref _)) _ _ _); (with_reducible rename Fr _ _ _ _ => FZ); (with_reducible rename News _ _ _ _ => NZ); (refine' cut_ba (s := ⟨_, _, _, _, _⟩) FZ NZ ?z9m ?z9k ?z9l ?z9u ?z9z ?_ ?z9hs ?z9ht; (case z9m => k_mem); (case z9k => kba_ints); (case z9l => constructor); (case z9u => constructor); (case z9z => kba_size); (case z9hs => with_unfolding_all rfl); (case z9ht => intro _; with_unfolding_all rfl)); intro _ _ _ FZ NZ l1Z kbcKZ; (try k_lt l1Z); (try simp only [Option.elim, KBc.clip_lit, clipAt_nat, List.drop_zero, Nat.sub_zero] at kbcKZ); (try k_sweep))
  k_with "m compareOp Lt bytes bytes" => refine lt_bytes ?_
  k_with "m compareOp Gt bytes bytes" => refine gt_bytes ?_
  k_with "m binaryOp LShift int int" => (k_here; first
    | ((with_reducible show wpAny _ _ (binaryOp Operator.LShift (Value.int _ _) (Value.int 8 _)) _ _ _); k_dflt (refine shl_K (n := 8) 256 (by decide +kernel) (by decide +kernel) (by decide +kernel) ?_ ?_ ?_; omega; omega; (try dsimp only)))
    | ((with_reducible show wpAny _ _ (binaryOp Operator.LShift (Value.int _ _) (Value.int 16 _)) _ _ _); k_dflt (refine shl_K (n := 16) 65536 (by decide +kernel) (by decide +kernel) (by decide +kernel) ?_ ?_ ?_; omega; omega; (try dsimp only)))
    | ((with_reducible show wpAny _ _ (binaryOp Operator.LShift (Value.int _ _) (Value.int 24 _)) _ _ _); k_dflt (refine shl_K (n := 24) 16777216 (by decide +kernel) (by decide +kernel) (by decide +kernel) ?_ ?_ ?_; omega; omega; (try dsimp only)))
    | ((with_reducible show wpAny _ _ (binaryOp Operator.LShift (Value.int _ _) (Value.int 32 _)) _ _ _); k_dflt (refine shl_K (n := 32) 4294967296 (by decide +kernel) (by decide +kernel) (by decide +kernel) ?_ ?_ ?_; omega; omega; (try dsimp only))))
  k_with "m binaryOp RShift int int" => (k_here; first
    | ((with_reducible show wpAny _ _ (binaryOp Operator.RShift (Value.int _ _) (Value.int 8 _)) _ _ _); k_dflt (refine shr_K (n := 8) 256 (by decide +kernel) (by decide +kernel) ?_ ?_; omega))
    | ((with_reducible show wpAny _ _ (binaryOp Operator.RShift (Value.int _ _) (Value.int 16 _)) _ _ _); k_dflt (refine shr_K (n := 16) 65536 (by decide +kernel) (by decide +kernel) ?_ ?_; omega))
    | ((with_reducible show wpAny _ _ (binaryOp Operator.RShift (Value.int _ _) (Value.int 24 _)) _ _ _); k_dflt (refine shr_K (n := 24) 16777216 (by decide +kernel) (by decide +kernel) ?_ ?_; omega))
    | ((with_reducible show wpAny _ _ (binaryOp Operator.RShift (Value.int _ _) (Value.int 32 _)) _ _ _); k_dflt (refine shr_K (n := 32) 4294967296 (by decide +kernel) (by decide +kernel) ?_ ?_; omega)))
  k_with "m binaryOp BitOr int int" => (k_here; with_reducible (first
    | (refine or_lo_K 256 8 (by decide +kernel) ?_ ?_ ?_ ?_; omega; omega; omega; (try dsimp only))
    | (refine or_lo_K 65536 16 (by decide +kernel) ?_ ?_ ?_ ?_; omega; omega; omega; (try dsimp only))
    | (refine or_lo_K 16777216 24 (by decide +kernel) ?_ ?_ ?_ ?_; omega; omega; omega; (try dsimp only))
    | (refine or_lo_K 4294967296 32 (by decide +kernel) ?_ ?_ ?_ ?_; omega; omega; omega; (try dsimp only))
    | (refine or_hi_K 256 8 (by decide +kernel) ?_ ?_ ?_ ?_; omega; omega; omega; (try dsimp only))))
  k_with "m binaryOp BitAnd int int" => (k_here; with_reducible (first | refine and8_K ?_ | refine and32_K ?_))
  k_with "m binaryOp Add bytes bytes" => (k_here; (with_reducible show wpAny _ _ (binaryOp Operator.Add (Value.bytes _ _) (Value.bytes _ _)) _ _ _); (refine' KBa.add_K ?z9p ?z9q ?z9z ?_); (case z9p => kba_ints); (case z9q => kba_ints); (case z9z => (try simp only [le8_length, le4_length, List.length_append, List.length_take, List.length_drop, List.length_cons, List.length_nil]) <;> omega); intro _ _ hAddZ; (try dsimp only))
  k_with "m compareOp Lt ref ref" => (k_here; (with_reducible show wpAny _ _ (compareOp CmpOp.Lt (Value.ref _) (Value.ref _)) _ _ _); k_dflt (refine' lt_tup ?z9N ?z9x ?z9y ?z9u ?_; (case z9N => k_asm); (case z9x => k_mem); (case z9y => k_mem); (case z9u => first | ktr_units | k_units); k_whole))
  k_with "m call builtin:len" => (k_here; (with_reducible show wpAny _ _ (call (Value.builtin _) [Value.ref _]) _ _ _); k_dflt (refine' call_len_list ?z9l ?z9f ?_; (case z9l => exact News.isList (by k_asm) (by k_mem)); (case z9f => (simp only [List.size_toArray]; first | omega | ((have hL9 := IntsAre.length (by assumption)); omega))); k_whole))
  k_with "m k_all" => first | assumption | (refine' off_of_lt ?z9lt9 ?z9le9; (case z9lt9 => assumption); (case z9le9 => ((try dsimp only); omega)))
  k_with "m binaryOp Pow int int" => (k_here; (with_reducible refine pow_K ?_ ?_ ?_ ?_ ?_); (focus omega); (focus first | (refine' pow_lim ?z9pa ?z9pb; (case z9pa => with_reducible assumption); (case z9pb => omega)) | omega); omega; omega; intro hPow9Z hLog9Z; (try dsimp only))
  k_with "m call type:bytes" => (k_here; (with_reducible show wpAny _ _ (call (Value.type _) [Value.ref _]) _ _ _); k_dflt (refine' KBa.make_K ?z9mkF ?z9mkN ?z9mkh ?z9mkl ?z9mki ?z9mkr ?z9mkz ?_; (case z9mkF => k_asm); (case z9mkN => k_asm); (case z9mkl => is_list); (case z9mki => first | l_ints | l_intsW); (case z9mkr => (intro n9Z hn9Z; (simp only [List.mem_cons, List.not_mem_nil, or_false] at hn9Z); rcases hn9Z with rfl; refine menu_b ?_ ?_ ?_ _ <;> decide)); (case z9mkz => (simp only [List.length_cons, List.length_nil]; omega)); (case z9mkh => with_unfolding_all rfl); k_whole); intro hZ tZ kZ FZ NZ hIn9Z; (try k_sweep))
  k_with "m binaryOp FloorDiv int int" => (k_here; (with_reducible refine fdiv_K ?_ ?_ ?_); (focus omega); (focus first | assumption | (refine log_small ?_ ?_ <;> omega)); (try dsimp only))
  k_with "m binaryOp Mod int int" => (k_here; (with_reducible refine fmod_K ?_ ?_); (focus omega); (try dsimp only))
  k_with "m eval ListComp" => (k_here; (with_reducible show wpAny _ _ (eval (Expr.ListComp _ _ _ _) _) _ _ _); kcf_look; k_dflt (refine LCg.ListComp_U (F₀ := by k_asm) (by with_unfolding_all rfl) (by decide) (by rfl) (by decide) (by rfl) ?_))
  k_with "m formatField int" => (k_here; (refine fmt_int (by with_reducible assumption) ?_); intro y9Z hy9Z; (try dsimp only))
  k_with "m And" => (k_here; (with_reducible show PySem.Str.length (_ ++ _) ≤ sizeLine ∧ _); first | ((with_reducible refine' ⟨fit_y ?z9ya ?z9yb, ?_⟩); (case z9ya => with_reducible assumption); (case z9yb => decide +kernel)) | ((with_reducible show PySem.Str.length (_ ++ _ ++ _) ≤ sizeLine ∧ _); (with_reducible refine' ⟨fit_yl ?z9ya ?z9yb ?z9yc, ?_⟩); (case z9ya => with_reducible assumption); (case z9yb => decide +kernel); (case z9yc => decide +kernel)))
  k_with "m joinParts" => (k_here; (with_reducible show wpAny _ _ (joinParts _ (evalEach [] _)) _ _ _); (with_reducible refine joinParts_nilE ?_); (with_reducible refine' joinParts_nil ?_ ?z9jz); (case z9jz => first | ((with_reducible show PySem.Str.length (_ ++ _ ++ _) ≤ sizeLine); (with_reducible refine' fit_yl ?z9ya ?z9yb ?z9yc); (case z9ya => with_reducible assumption); (case z9yb => decide +kernel); (case z9yc => decide +kernel)) | ((with_reducible refine' fit_y ?z9ya ?z9yb); (case z9ya => with_reducible assumption); (case z9yb => decide +kernel))); (try dsimp only))
  k_with "m formatField int" => (k_here; (refine' fmt_int (shown (N := 1000) ?z9u1 ?z9u2 ?z9u3) ?_; (case z9u1 => omega); (case z9u2 => omega); (case z9u3 => decide +kernel)); intro y9Z hy9Z; (try dsimp only))
  k_with "m call ref" => (k_here; (with_reducible show wpAny _ _ (call (Value.ref 131) [Value.bytes _ _]) _ _ _); k_dflt (refine' user_of_bytes ?z9B ?z9F ?z9X ?z9N ?z9T ?z9hk ?z9hhb ?z9hhlen ?z9hhz ?z9hd ?z9hu ?_; (case z9B => k_asm); (case z9F => k_asm); (case z9X => k_asm); (case z9N => k_asm); (case z9T => k_asm); (case z9hk => first | exact rfl | assumption); (case z9hhb => kba_ints); (case z9hhlen => first | omega | kba_size | l_fact); (case z9hhz => first | omega | kba_size | l_fact); (case z9hd => ktr_room); (case z9hu => ktr_units); k_whole); intro r0Z r1Z hZ tkZ hRZ FZ NZ; (try dsimp only); (try k_sweep); walk_say "BY user_of_bytes")
  k_with "m call ref" => (k_here; (with_reducible show wpAny _ _ (call (Value.ref 131) [Value.ref _]) _ _ _); k_dflt (refine' user_of_ba ?z9B ?z9F ?z9X ?z9N ?z9T ?z9hk ?z9hhx ?z9hhb ?z9hhlen ?z9hhz ?z9hd ?z9hu ?_; (case z9B => k_asm); (case z9F => k_asm); (case z9X => k_asm); (case z9N => k_asm); (case z9T => k_asm); (case z9hk => first | exact rfl | assumption); (case z9hhx => k_mem); (case z9hhb => kba_ints); (case z9hhlen => first | omega | kba_size | l_fact); (case z9hhz => first | omega | kba_size | l_fact); (case z9hd => ktr_room); (case z9hu => ktr_units); k_whole); intro r0Z r1Z hZ tkZ hRZ FZ NZ; (try dsimp only); (try k_sweep); walk_say "BY user_of_ba")
  k_with "m call ref" => (k_here; (with_reducible show wpAny _ _ (call (Value.ref 96) [Value.bytes _ _, Value.int _ _]) _ _ _); k_dflt (refine' rf32_bytes ?z9B ?z9F ?z9X ?z9N ?z9T ?z9hk ?z9hhb ?z9hh0 ?z9hh1 ?z9hhz ?z9hd ?z9hu ?_; (case z9B => k_asm); (case z9F => k_asm); (case z9X => k_asm); (case z9N => k_asm); (case z9T => k_asm); (case z9hk => first | exact rfl | assumption); (case z9hhb => kba_ints); (case z9hh0 => first | omega | kba_size | l_fact); (case z9hh1 => first | omega | kba_size | l_fact); (case z9hhz => first | omega | kba_size | l_fact); (case z9hd => ktr_room); (case z9hu => ktr_units); k_whole); intro r0Z hZ tkZ hR0Z hR1Z FZ NZ; (try dsimp only); (try k_sweep); walk_say "BY rf32_bytes")
  k_with "m call ref" => (k_here; (with_reducible show wpAny _ _ (call (Value.ref 96) [Value.ref _, Value.int _ _]) _ _ _); k_dflt (refine' rf32_ba ?z9B ?z9F ?z9X ?z9N ?z9T ?z9hk ?z9hhx ?z9hhb ?z9hh0 ?z9hh1 ?z9hhz ?z9hd ?z9hu ?_; (case z9B => k_asm); (case z9F => k_asm); (case z9X => k_asm); (case z9N => k_asm); (case z9T => k_asm); (case z9hk => first | exact rfl | assumption); (case z9hhx => k_mem); (case z9hhb => kba_ints); (case z9hh0 => first | omega | kba_size | l_fact); (case z9hh1 => first | omega | kba_size | l_fact); (case z9hhz => first | omega | kba_size | l_fact); (case z9hd => ktr_room); (case z9hu => ktr_units); k_whole); intro r0Z hZ tkZ hR0Z hR1Z FZ NZ; (try dsimp only); (try k_sweep); walk_say "BY rf32_ba")
  k_with "m call ref" => (k_here; (with_reducible show wpAny _ _ (call (Value.ref 103) [Value.bytes _ _, Value.int _ _]) _ _ _); k_dflt (refine' rf64_bytes ?z9B ?z9F ?z9X ?z9N ?z9T ?z9hk ?z9hhb ?z9hh0 ?z9hh1 ?z9hhz ?z9hd ?z9hu ?_; (case z9B => k_asm); (case z9F => k_asm); (case z9X => k_asm); (case z9N => k_asm); (case z9T => k_asm); (case z9hk => first | exact rfl | assumption); (case z9hhb => kba_ints); (case z9hh0 => first | omega | kba_size | l_fact); (case z9hh1 => first | omega | kba_size | l_fact); (case z9hhz => first | omega | kba_size | l_fact); (case z9hd => ktr_room); (case z9hu => ktr_units); k_whole); intro r0Z hZ tkZ hR0Z hR1Z FZ NZ; (try dsimp only); (try k_sweep); walk_say "BY rf64_bytes")
  k_with "m call ref" => (k_here; (with_reducible show wpAny _ _ (call (Value.ref 103) [Value.ref _, Value.int _ _]) _ _ _); k_dflt (refine' rf64_ba ?z9B ?z9F ?z9X ?z9N ?z9T ?z9hk ?z9hhx ?z9hhb ?z9hh0 ?z9hh1 ?z9hhz ?z9hd ?z9hu ?_; (case z9B => k_asm); (case z9F => k_asm); (case z9X => k_asm); (case z9N => k_asm); (case z9T => k_asm); (case z9hk => first | exact rfl | assumption); (case z9hhx => k_mem); (case z9hhb => kba_ints); (case z9hh0 => first | omega | kba_size | l_fact); (case z9hh1 => first | omega | kba_size | l_fact); (case z9hhz => first | omega | kba_size | l_fact); (case z9hd => ktr_room); (case z9hu => ktr_units); k_whole); intro r0Z hZ tkZ hR0Z hR1Z FZ NZ; (try dsimp only); (try k_sweep); walk_say "BY rf64_ba")
  k_with "m call ref" => (k_here; (with_reducible show wpAny _ _ (call (Value.ref 138) [Value.bytes _ _]) _ _ _); k_dflt (refine' tag_of_bytes ?z9B ?z9F ?z9X ?z9N ?z9T ?z9hk ?z9hhb ?z9hhlen ?z9hhz ?z9hd ?z9hu ?_; (case z9B => k_asm); (case z9F => k_asm); (case z9X => k_asm); (case z9N => k_asm); (case z9T => k_asm); (case z9hk => first | exact rfl | assumption); (case z9hhb => kba_ints); (case z9hhlen => first | omega | kba_size | l_fact); (case z9hhz => first | omega | kba_size | l_fact); (case z9hd => ktr_room); (case z9hu => ktr_units); k_whole); intro r0Z hZ tkZ hR0Z hR1Z FZ NZ; (try dsimp only); (try k_sweep); walk_say "BY tag_of_bytes")
  k_with "m call ref" => (k_here; (with_reducible show wpAny _ _ (call (Value.ref 138) [Value.ref _]) _ _ _); k_dflt (refine' tag_of_ba ?z9B ?z9F ?z9X ?z9N ?z9T ?z9hk ?z9hhx ?z9hhb ?z9hhlen ?z9hhz ?z9hd ?z9hu ?_; (case z9B => k_asm); (case z9F => k_asm); (case z9X => k_asm); (case z9N => k_asm); (case z9T => k_asm); (case z9hk => first | exact rfl | assumption); (case z9hhx => k_mem); (case z9hhb => kba_ints); (case z9hhlen => first | omega | kba_size | l_fact); (case z9hhz => first | omega | kba_size | l_fact); (case z9hd => ktr_room); (case z9hu => ktr_units); k_whole); intro r0Z hZ tkZ hR0Z hR1Z FZ NZ; (try dsimp only); (try k_sweep); walk_say "BY tag_of_ba")
  trivial
set_option maxHeartbeats 1000000 in
theorem user_odd {w : World} {mean : ExcName → Option Value} {mg mb : Str → Option Value} {dp un : Nat} {gd : Option (List Code)} {cn : Str} {cs : Scope} {a : Addr} {ccd : Value} {cl : List (Str × Addr)} {outer : List Env} {A₀ : Around} {base h₀ : Heap} {L : Addr} {m : Str → Option Value} {s : Shared} {Q E : Value → Shared → Prop} {news : List (Addr × Obj)} {b ua : Array UInt8} {q k : Int} {t : Tok}
  (B : Below A₀ base outer h₀) (F : Fr h₀ L s.heap m) (X : (Mine.hd.heap_39 w.params).In h₀) (N : News h₀ L s.heap news) (T : Top Mine.view (looseW Mine.view []) mean mg mb h₀) (hk : cs.kind = .function)
  (K : OddOf b ua q k)
  (hd : dp + 1 < recursionLimit) (hu : un + 8 < cLine)
  (hret : ∀ t' (h' : Heap) (tk' : Nat), Fr h₀ L h' m → News h₀ L h' news → Q (.bytes ua t') { s with heap := h', toks := tk' }) :
  wpAny (model Challenge.rw_xw0260_01.row.prog w) (ktrTop dp un gd cn cs L a ccd cl outer) (call (.ref 131) [.bytes b t]) Q E s := by
  obtain ⟨ks, e, hb, h8, h9⟩ := K.open
  exact user_of_bytes B F X N T hk hb h8 (by omega) hd hu fun b' t' h' tk' e' F' N' => by cases OddOf.user e e'; exact hret t' h' tk' F' N'
theorem lines_48 : True := by
  k_with "m call ref" => (k_here; (with_reducible show wpAny _ _ (call (Value.ref 131) [Value.bytes _ _]) _ _ _); k_dflt (refine' user_odd ?z9B ?z9F ?z9X ?z9N ?z9T ?z9hk ?z9hK ?z9hd ?z9hu ?_; (case z9B => k_asm); (case z9F => k_asm); (case z9X => k_asm); (case z9N => k_asm); (case z9T => k_asm); (case z9hk => first | exact rfl | assumption); (case z9hK => with_reducible assumption); (case z9hd => ktr_room); (case z9hu => ktr_units); k_whole); intro r0Z hZ tkZ  FZ NZ; (try dsimp only); (try k_sweep); walk_say "BY user_odd")
  trivial
set_option maxHeartbeats 1000000 in
theorem tag_odd {w : World} {mean : ExcName → Option Value} {mg mb : Str → Option Value} {dp un : Nat} {gd : Option (List Code)} {cn : Str} {cs : Scope} {a : Addr} {ccd : Value} {cl : List (Str × Addr)} {outer : List Env} {A₀ : Around} {base h₀ : Heap} {L : Addr} {m : Str → Option Value} {s : Shared} {Q E : Value → Shared → Prop} {news : List (Addr × Obj)} {b ua : Array UInt8} {q k : Int} {t : Tok}
  (B : Below A₀ base outer h₀) (F : Fr h₀ L s.heap m) (X : (Mine.hd.heap_39 w.params).In h₀) (N : News h₀ L s.heap news) (T : Top Mine.view (looseW Mine.view []) mean mg mb h₀) (hk : cs.kind = .function)
  (K : OddOf b ua q k)
  (hd : dp + 3 < recursionLimit) (hu : un + 24 < cLine)
  (hret : ∀ t' (h' : Heap) (tk' : Nat), Fr h₀ L h' m → News h₀ L h' news → Q (.int (q * 256 + k) t') { s with heap := h', toks := tk' }) :
  wpAny (model Challenge.rw_xw0260_01.row.prog w) (ktrTop dp un gd cn cs L a ccd cl outer) (call (.ref 138) [.bytes b t]) Q E s := by
  obtain ⟨ks, e, hb, h8, h9⟩ := K.open
  exact tag_of_bytes B F X N T hk hb h8 (by omega) hd hu fun t' h' tk' _ _ F' N' => by rw [K.tag e]; exact hret t' h' tk' F' N'
theorem lines_49 : True := by
  k_with "m call ref" => (k_here; (with_reducible show wpAny _ _ (call (Value.ref 138) [Value.bytes _ _]) _ _ _); k_dflt (refine' tag_odd ?z9B ?z9F ?z9X ?z9N ?z9T ?z9hk ?z9hK ?z9hd ?z9hu ?_; (case z9B => k_asm); (case z9F => k_asm); (case z9X => k_asm); (case z9N => k_asm); (case z9T => k_asm); (case z9hk => first | exact rfl | assumption); (case z9hK => with_reducible assumption); (case z9hd => ktr_room); (case z9hu => ktr_units); k_whole); intro r0Z hZ tkZ  FZ NZ; (try dsimp only); (try k_sweep); walk_say "BY tag_odd")
  trivial
set_option maxHeartbeats 1000000 in
theorem split_odd {w : World} {mean : ExcName → Option Value} {mg mb : Str → Option Value} {dp un : Nat} {gd : Option (List Code)} {cn : Str} {cs : Scope} {a : Addr} {ccd : Value} {cl : List (Str × Addr)} {outer : List Env} {A₀ : Around} {base h₀ : Heap} {L : Addr} {m : Str → Option Value} {s : Shared} {Q E : Value → Shared → Prop} {news : List (Addr × Obj)} {b ua : Array UInt8} {q k : Int} {u : Tok}
  (B : Below A₀ base outer h₀) (F : Fr h₀ L s.heap m) (X : (Mine.hd.heap_39 w.params).In h₀) (N : News h₀ L s.heap news) (T : Top Mine.view (looseW Mine.view []) mean mg mb h₀) (hk : cs.kind = .function)
  (K : OddOf b ua q k)
  (hd : dp + 4 < recursionLimit) (hu : un + 32 < cLine)
  (hraise : ∀ e t9 vs9 g9 (h' : Heap) (tk' : Nat), Fr h₀ L g9 m → RaisedS base g9 (envX cn cs L a ccd cl :: outer) e (.ref 49) t9 vs9 news h' → RaisedK base (envX cn cs L a ccd cl :: outer) e (.ref 49) t9 vs9 news h' → g9.UpToSlots h' → E (.ref e) { s with heap := h', toks := tk' }) :
  wpAny (model Challenge.rw_xw0260_01.row.prog w) (ktrTop dp un gd cn cs L a ccd cl outer) (call (.ref 124) [.bytes b u]) Q E s := by
  obtain ⟨ks, e9, hb, h8, h9⟩ := K.open
  have ht9 := K.tag e9
  have z1 := K.x0
  have z2 := K.x1
  revert X; k_fill; intro X
  have kd0 : KtsDicts [] h₀ := fun b hb => by cases hb
  refine wpAny_call ?_
  k_dflt cell_enter
  k_steps
  all_goals first | (exfalso; omega) | exact hraise _ _ _ _ _ _ (by assumption) (by assumption) (by assumption) (by assumption)
theorem lines_50 : True := by
  k_with "m call ref" => (k_here; (with_reducible show wpAny _ _ (call (Value.ref 124) [Value.bytes _ _]) _ _ _); k_dflt (refine' split_odd ?z9B ?z9F ?z9X ?z9N ?z9T ?z9hk ?z9hK ?z9hd ?z9hu ?_; (case z9B => k_asm); (case z9F => k_asm); (case z9X => k_asm); (case z9N => k_asm); (case z9T => k_asm); (case z9hk => first | exact rfl | assumption); (case z9hK => with_reducible assumption); (case z9hd => ktr_room); (case z9hu => ktr_units); k_whole); intro eZ tZ vsZ gZ hZ tkZ FGZ SZ RZ UZ; (try dsimp only at SZ RZ UZ ⊢); walk_say "BY split_odd")
  trivial

theorem lines_51 : True := by
  k_with_none
  k_with "m call type:bytes" => (k_here; (with_reducible show wpAny _ _ (call (Value.type _) [Value.bytes _ _]) _ _ _); refine bytes_bytes ?_)
  k_with "m call type:bytes" => (k_here; (with_reducible show wpAny _ _ (call (Value.type _) [Value.ref _]) _ _ _); k_dflt (refine' bytes_ba_K ?z9N ?z9m ?z9k ?z9z ?_; (case z9N => k_asm); (case z9m => k_mem); (case z9k => kba_ints); (case z9z => kba_size); k_whole); intro _ _)
  k_with "m call builtin:len" => (k_here; (with_reducible show wpAny _ _ (call (Value.builtin _) [Value.ref _]) _ _ _); k_dflt (refine' len_ba ?z9N ?z9m ?z9k ?z9z ?_; (case z9N => k_asm); (case z9m => k_mem); (case z9k => kba_ints); (case z9z => kba_size); k_whole))
  k_with "m subscriptTail" => (k_here; (with_reducible show wpAny _ _ (subscriptTail _ _ (Value.ref _) (Value.int _ _)) _ _ _); k_dflt (refine' item_ba ?z9N ?z9m ?z9k ?z9z ?z9l ?z9u ?_ ?z9hs ?z9ht; (case z9N => k_asm); (case z9m => k_mem); (case z9k => kba_ints); (case z9z => kba_size); (case z9l => kba_idx); (case z9u => kba_idx); (case z9hs => with_unfolding_all rfl); (case z9ht => intro _; with_unfolding_all rfl); k_whole); intro _ _ baLoZ baHiZ)
  k_with "m subscriptTail" => (k_here; (with_reducible show wpAny _ _ (subscriptTail _ (Expr.Slice _ _ none _) (Value.ref _) (Value.ref _)) _ _ _); (with_reducible rename Fr _ _ _ _ => FZ); (with_reducible rename News _ _ _ _ => NZ); (refine' cut_ba (s := ⟨_, _, _, _, _⟩) FZ NZ ?z9m ?z9k ?z9l ?z9u ?z9z ?_ ?z9hs ?z9ht; (case z9m => k_mem); (case z9k => kba_ints); (case z9l => constructor); (case z9u => constructor); (case z9z => kba_size); (case z9hs => with_unfolding_all rfl); (case z9ht => intro _; with_unfolding_all rfl)); intro _ _ _ FZ NZ l1Z kbcKZ; (try k_lt l1Z); (try simp only [Option.elim, KBc.clip_lit, clipAt_nat, List.drop_zero, Nat.sub_zero] at kbcKZ); (try k_sweep))
  k_with "m compareOp Lt bytes bytes" => refine lt_bytes ?_
  k_with "m compareOp Gt bytes bytes" => refine gt_bytes ?_
  k_with "m binaryOp LShift int int" => (k_here; first
    | ((with_reducible show wpAny _ _ (binaryOp Operator.LShift (Value.int _ _) (Value.int 8 _)) _ _ _); k_dflt (refine shl_K (n := 8) 256 (by decide +kernel) (by decide +kernel) (by decide +kernel) ?_ ?_ ?_; omega; omega; (try dsimp only)))
    | ((with_reducible show wpAny _ _ (binaryOp Operator.LShift (Value.int _ _) (Value.int 16 _)) _ _ _); k_dflt (refine shl_K (n := 16) 65536 (by decide +kernel) (by decide +kernel) (by decide +kernel) ?_ ?_ ?_; omega; omega; (try dsimp only)))
    | ((with_reducible show wpAny _ _ (binaryOp Operator.LShift (Value.int _ _) (Value.int 24 _)) _ _ _); k_dflt (refine shl_K (n := 24) 16777216 (by decide +kernel) (by decide +kernel) (by decide +kernel) ?_ ?_ ?_; omega; omega; (try dsimp only)))
    | ((with_reducible show wpAny _ _ (binaryOp Operator.LShift (Value.int _ _) (Value.int 32 _)) _ _ _); k_dflt (refine shl_K (n := 32) 4294967296 (by decide +kernel) (by decide +kernel) (by decide +kernel) ?_ ?_ ?_; omega; omega; (try dsimp only))))
  k_with "m binaryOp RShift int int" => (k_here; first
    | ((with_reducible show wpAny _ _ (binaryOp Operator.RShift (Value.int _ _) (Value.int 8 _)) _ _ _); k_dflt (refine shr_K (n := 8) 256 (by decide +kernel) (by decide +kernel) ?_ ?_; omega))
    | ((with_reducible show wpAny _ _ (binaryOp Operator.RShift (Value.int _ _) (Value.int 16 _)) _ _ _); k_dflt (refine shr_K (n := 16) 65536 (by decide +kernel) (by decide +kernel) ?_ ?_; omega))
    | ((with_reducible show wpAny _ _ (binaryOp Operator.RShift (Value.int _ _) (Value.int 24 _)) _ _ _); k_dflt (refine shr_K (n := 24) 16777216 (by decide +kernel) (by decide +kernel) ?_ ?_; omega))
    | ((with_reducible show wpAny _ _ (binaryOp Operator.RShift (Value.int _ _) (Value.int 32 _)) _ _ _); k_dflt (refine shr_K (n := 32) 4294967296 (by decide +kernel) (by decide +kernel) ?_ ?_; omega)))
  k_with "m binaryOp BitOr int int" => (k_here; with_reducible (first
    | (refine or_lo_K 256 8 (by decide +kernel) ?_ ?_ ?_ ?_; omega; omega; omega; (try dsimp only))
    | (refine or_lo_K 65536 16 (by decide +kernel) ?_ ?_ ?_ ?_; omega; omega; omega; (try dsimp only))
    | (refine or_lo_K 16777216 24 (by decide +kernel) ?_ ?_ ?_ ?_; omega; omega; omega; (try dsimp only))
    | (refine or_lo_K 4294967296 32 (by decide +kernel) ?_ ?_ ?_ ?_; omega; omega; omega; (try dsimp only))
    | (refine or_hi_K 256 8 (by decide +kernel) ?_ ?_ ?_ ?_; omega; omega; omega; (try dsimp only))))
  k_with "m binaryOp BitAnd int int" => (k_here; with_reducible (first | refine and8_K ?_ | refine and32_K ?_))
  k_with "m binaryOp Add bytes bytes" => (k_here; (with_reducible show wpAny _ _ (binaryOp Operator.Add (Value.bytes _ _) (Value.bytes _ _)) _ _ _); (refine' KBa.add_K ?z9p ?z9q ?z9z ?_); (case z9p => kba_ints); (case z9q => kba_ints); (case z9z => (try simp only [le8_length, le4_length, List.length_append, List.length_take, List.length_drop, List.length_cons, List.length_nil]) <;> omega); intro _ _ hAddZ; (try dsimp only))
  k_with "m compareOp Lt ref ref" => (k_here; (with_reducible show wpAny _ _ (compareOp CmpOp.Lt (Value.ref _) (Value.ref _)) _ _ _); k_dflt (refine' lt_tup ?z9N ?z9x ?z9y ?z9u ?_; (case z9N => k_asm); (case z9x => k_mem); (case z9y => k_mem); (case z9u => first | ktr_units | k_units); k_whole))
  k_with "m call builtin:len" => (k_here; (with_reducible show wpAny _ _ (call (Value.builtin _) [Value.ref _]) _ _ _); k_dflt (refine' call_len_list ?z9l ?z9f ?_; (case z9l => exact News.isList (by k_asm) (by k_mem)); (case z9f => (simp only [List.size_toArray]; first | omega | ((have hL9 := IntsAre.length (by assumption)); omega))); k_whole))
  k_with "m k_all" => first | assumption | (refine' off_of_lt ?z9lt9 ?z9le9; (case z9lt9 => assumption); (case z9le9 => ((try dsimp only); omega)))
  k_with "m binaryOp Pow int int" => (k_here; (with_reducible refine pow_K ?_ ?_ ?_ ?_ ?_); (focus omega); (focus first | (refine' pow_lim ?z9pa ?z9pb; (case z9pa => with_reducible assumption); (case z9pb => omega)) | omega); omega; omega; intro hPow9Z hLog9Z; (try dsimp only))
  k_with "m call type:bytes" => (k_here; (with_reducible show wpAny _ _ (call (Value.type _) [Value.ref _]) _ _ _); k_dflt (refine' KBa.make_K ?z9mkF ?z9mkN ?z9mkh ?z9mkl ?z9mki ?z9mkr ?z9mkz ?_; (case z9mkF => k_asm); (case z9mkN => k_asm); (case z9mkl => is_list); (case z9mki => first | l_ints | l_intsW); (case z9mkr => (intro n9Z hn9Z; (simp only [List.mem_cons, List.not_mem_nil, or_false] at hn9Z); rcases hn9Z with rfl; refine menu_b ?_ ?_ ?_ _ <;> decide)); (case z9mkz => (simp only [List.length_cons, List.length_nil]; omega)); (case z9mkh => with_unfolding_all rfl); k_whole); intro hZ tZ kZ FZ NZ hIn9Z; (try k_sweep))
  k_with "m binaryOp FloorDiv int int" => (k_here; (with_reducible refine fdiv_K ?_ ?_ ?_); (focus omega); (focus first | assumption | (refine log_small ?_ ?_ <;> omega)); (try dsimp only))
  k_with "m binaryOp Mod int int" => (k_here; (with_reducible refine fmod_K ?_ ?_); (focus omega); (try dsimp only))
  k_with "m eval ListComp" => (k_here; (with_reducible show wpAny _ _ (eval (Expr.ListComp _ _ _ _) _) _ _ _); kcf_look; k_dflt (refine LCg.ListComp_U (F₀ := by k_asm) (by with_unfolding_all rfl) (by decide) (by rfl) (by decide) (by rfl) ?_))
  k_with "m formatField int" => (k_here; (refine fmt_int (by with_reducible assumption) ?_); intro y9Z hy9Z; (try dsimp only))
  k_with "m And" => (k_here; (with_reducible show PySem.Str.length (_ ++ _) ≤ sizeLine ∧ _); first | ((with_reducible refine' ⟨fit_y ?z9ya ?z9yb, ?_⟩); (case z9ya => with_reducible assumption); (case z9yb => decide +kernel)) | ((with_reducible show PySem.Str.length (_ ++ _ ++ _) ≤ sizeLine ∧ _); (with_reducible refine' ⟨fit_yl ?z9ya ?z9yb ?z9yc, ?_⟩); (case z9ya => with_reducible assumption); (case z9yb => decide +kernel); (case z9yc => decide +kernel)))
  k_with "m joinParts" => (k_here; (with_reducible show wpAny _ _ (joinParts _ (evalEach [] _)) _ _ _); (with_reducible refine joinParts_nilE ?_); (with_reducible refine' joinParts_nil ?_ ?z9jz); (case z9jz => first | ((with_reducible show PySem.Str.length (_ ++ _ ++ _) ≤ sizeLine); (with_reducible refine' fit_yl ?z9ya ?z9yb ?z9yc); (case z9ya => with_reducible assumption); (case z9yb => decide +kernel); (case z9yc => decide +kernel)) | ((with_reducible refine' fit_y ?z9ya ?z9yb); (case z9ya => with_reducible assumption); (case z9yb => decide +kernel))); (try dsimp only))
  k_with "m formatField int" => (k_here; (refine' fmt_int (shown (N := 1000) ?z9u1 ?z9u2 ?z9u3) ?_; (case z9u1 => omega); (case z9u2 => omega); (case z9u3 => decide +kernel)); intro y9Z hy9Z; (try dsimp only))
  k_with "m exec For Name Call cons nil" => (k_here; (with_reducible rename KtsDicts _ _ => kdGZ); (with_reducible show wpAny _ _ (exec (Stmt.For (Expr.Name _ _) (Expr.Call _ _ _ _) _ [] _) _) _ _ _); with_unfolding_all (refine' For_G ?z9ga ?z9gb ?_; (case z9ga => exact rfl); (case z9gb => exact rfl); k_whole))
  k_with "m pyIter ref" => ((with_reducible show wpAny _ _ (pyIter (Value.ref _)) (fun it s₂ => LoopG _ _ _ _ _ _ _ _ it s₂) _ _); (with_reducible rename IsRange _ _ _ _ _ _ _ _ => rGZ); (with_reducible rename Fr _ _ _ _ => fGZ); (with_reducible rename News _ _ _ _ => nGZ); (with_unfolding_all first | refine iter_G (n := 2) (by rfl) rGZ (by first | decide | rfl) (by first | decide | rfl) fGZ nGZ ?_ | refine iter_G (n := 10) (by rfl) rGZ (by first | decide | rfl) (by first | decide | rfl) fGZ nGZ ?_); intro iZ l1Z s2Z hs2Z; (obtain ⟨h2Z, hs2Z⟩ := hs2Z); subst hs2Z)
  k_with "m PostG" => (k_dflt (refine' PostG.headN ?z9pF ?z9pN ?z9pO ?_; (case z9pF => k_asm); (case z9pN => k_asm); (case z9pO => assumption)))
  k_with "m k_mem" => first | exact List.Mem.head _ | (refine List.mem_cons_of_mem _ ?_; k_mem)
  k_with "m eval Name" => (k_here; k_dflt (refine' nameX_L ?z9F ?z9v ?_ ?z9a ?z9b; (case z9F => k_asm); (case z9a => rfl); (case z9b => rfl); (case z9v => first | rfl | assumption); k_whole))
  k_with "m call ref" => (k_here; (with_reducible show wpAny _ _ (call (Value.ref 131) [Value.bytes _ _]) _ _ _); k_dflt (refine' user_bad ?z9B ?z9F ?z9X ?z9N ?z9T ?z9hk ?z9hhz ?z9hd ?z9hu ?_; (case z9B => k_asm); (case z9F => k_asm); (case z9X => k_asm); (case z9N => k_asm); (case z9T => k_asm); (case z9hk => first | exact rfl | assumption); (case z9hhz => with_reducible assumption); (case z9hd => ktr_room); (case z9hu => ktr_units); k_whole); intro eZ tZ vsZ gZ hZ tkZ FGZ SZ RZ UZ; (try dsimp only at SZ RZ UZ ⊢); walk_say "BY user_bad")
  k_with "m call ref" => (k_here; (with_reducible show wpAny _ _ (call (Value.ref 138) [Value.bytes _ _]) _ _ _); k_dflt (refine' tag_bad ?z9B ?z9F ?z9X ?z9N ?z9T ?z9hk ?z9hhz ?z9hd ?z9hu ?_; (case z9B => k_asm); (case z9F => k_asm); (case z9X => k_asm); (case z9N => k_asm); (case z9T => k_asm); (case z9hk => first | exact rfl | assumption); (case z9hhz => with_reducible assumption); (case z9hd => ktr_room); (case z9hu => ktr_units); k_whole); intro eZ tZ vsZ gZ hZ tkZ FGZ SZ RZ UZ; (try dsimp only at SZ RZ UZ ⊢); walk_say "BY tag_bad")
  k_with "m call ref" => (k_here; (with_reducible show wpAny _ _ (call (Value.ref 124) [Value.bytes _ _]) _ _ _); k_dflt (refine' split_bad ?z9B ?z9F ?z9X ?z9N ?z9T ?z9hk ?z9hhz ?z9hd ?z9hu ?_; (case z9B => k_asm); (case z9F => k_asm); (case z9X => k_asm); (case z9N => k_asm); (case z9T => k_asm); (case z9hk => first | exact rfl | assumption); (case z9hhz => with_reducible assumption); (case z9hd => ktr_room); (case z9hu => ktr_units); k_whole); intro eZ tZ vsZ gZ hZ tkZ FGZ SZ RZ UZ; (try dsimp only at SZ RZ UZ ⊢); walk_say "BY split_bad")
  k_with "m call ref" => (k_here; (with_reducible show wpAny _ _ (call (Value.ref 255) [Value.ref _, Value.bytes _ _]) _ _ _); k_dflt (refine' isucc_bad ?z9B ?z9F ?z9X ?z9N ?z9T ?z9hk ?z9hhz ?z9hd ?z9hu ?_; (case z9B => k_asm); (case z9F => k_asm); (case z9X => k_asm); (case z9N => k_asm); (case z9T => k_asm); (case z9hk => first | exact rfl | assumption); (case z9hhz => with_reducible assumption); (case z9hd => ktr_room); (case z9hu => ktr_units); k_whole); intro eZ tZ vsZ gZ hZ tkZ FGZ SZ RZ UZ; (try dsimp only at SZ RZ UZ ⊢); walk_say "BY isucc_bad")
  k_with "m call ref" => (k_here; (with_reducible show wpAny _ _ (call (Value.ref 248) [Value.ref _, Value.bytes _ _, _]) _ _ _); k_dflt (refine' isep_bad ?z9B ?z9F ?z9X ?z9N ?z9T ?z9hk ?z9hhz ?z9hd ?z9hu ?_; (case z9B => k_asm); (case z9F => k_asm); (case z9X => k_asm); (case z9N => k_asm); (case z9T => k_asm); (case z9hk => first | exact rfl | assumption); (case z9hhz => with_reducible assumption); (case z9hd => ktr_room); (case z9hu => ktr_units); k_whole); intro eZ tZ vsZ gZ hZ tkZ FGZ SZ RZ UZ; (try dsimp only at SZ RZ UZ ⊢); walk_say "BY isep_bad")
  k_with "m call ref" => (k_here; (with_reducible show wpAny _ _ (call (Value.ref 234) [Value.ref _, Value.bytes _ _, Value.bytes _ _]) _ _ _); k_dflt (refine' icmp_bad2 ?z9B ?z9F ?z9X ?z9N ?z9T ?z9hk ?z9hm1 ?z9hm2 ?z9hm3 ?z9hm4 ?z9hhb ?z9hh8 ?z9hh9 ?z9hhz ?z9hd ?z9hu ?_; (case z9B => k_asm); (case z9F => k_asm); (case z9X => k_asm); (case z9N => k_asm); (case z9T => k_asm); (case z9hk => first | exact rfl | assumption); (case z9hm1 => k_mem); (case z9hm2 => k_mem); (case z9hm3 => k_mem); (case z9hm4 => k_mem); (case z9hhb => kba_ints); (case z9hh8 => first | omega | kba_size | l_fact); (case z9hh9 => first | omega | kba_size | l_fact); (case z9hhz => with_reducible assumption); (case z9hd => ktr_room); (case z9hu => ktr_units); k_whole); intro eZ tZ vsZ gZ hZ tkZ FGZ SZ RZ UZ; (try dsimp only at SZ RZ UZ ⊢); walk_say "BY icmp_bad2")
  k_with "m call ref" => (k_here; (with_reducible show wpAny _ _ (call (Value.ref 248) [Value.ref _, Value.bytes _ _, Value.bytes _ _]) _ _ _); k_dflt (refine' isep_bad2 ?z9B ?z9F ?z9X ?z9N ?z9T ?z9hk ?z9hm1 ?z9hm2 ?z9hm3 ?z9hm4 ?z9hhb ?z9hh8 ?z9hh9 ?z9hhz ?z9hd ?z9hu ?_; (case z9B => k_asm); (case z9F => k_asm); (case z9X => k_asm); (case z9N => k_asm); (case z9T => k_asm); (case z9hk => first | exact rfl | assumption); (case z9hm1 => k_mem); (case z9hm2 => k_mem); (case z9hm3 => k_mem); (case z9hm4 => k_mem); (case z9hhb => kba_ints); (case z9hh8 => first | omega | kba_size | l_fact); (case z9hh9 => first | omega | kba_size | l_fact); (case z9hhz => with_reducible assumption); (case z9hd => ktr_room); (case z9hu => ktr_units); k_whole); intro eZ tZ vsZ gZ hZ tkZ FGZ SZ RZ UZ; (try dsimp only at SZ RZ UZ ⊢); walk_say "BY isep_bad2")
  k_with "m call ref" => (k_here; (with_reducible show wpAny _ _ (call (Value.ref 234) [Value.ref _, Value.bytes _ _, Value.bytes _ _]) _ _ _); k_dflt (refine' icmp_c ?z9B ?z9F ?z9X ?z9N ?z9T ?z9hk ?z9hm1 ?z9hm2 ?z9hm3 ?z9hm4 ?z9hK1 ?z9hK2 ?z9hd ?z9hu ?_; (case z9B => k_asm); (case z9F => k_asm); (case z9X => k_asm); (case z9N => k_asm); (case z9T => k_asm); (case z9hk => first | exact rfl | assumption); (case z9hm1 => k_mem); (case z9hm2 => k_mem); (case z9hm3 => k_mem); (case z9hm4 => k_mem); (case z9hK1 => with_reducible assumption); (case z9hK2 => with_reducible assumption); (case z9hd => ktr_room); (case z9hu => ktr_units); k_whole); intro r0Z hZ tkZ  FZ NZ; (try dsimp only); (try k_sweep); walk_say "BY icmp_c")
  trivial
set_option maxHeartbeats 8000000 in
theorem corrupt_c {w : World} {mean : ExcName → Option Value} {mg mb : Str → Option Value} {cn : Str} {cs : Scope} {a : Addr} {ccd : Value} {cl : List (Str × Addr)} {base : Heap} {L : Addr} {m : Str → Option Value} {s : Shared} {Q E : Value → Shared → Prop} {news : List (Addr × Obj)} {xi di xb db : Addr} {ti : Tok} {b c ua : Array UInt8} {s0 k0 : Int} {u v : Tok}
  (B : Below callerA base [] base) (F : Fr base L s.heap m) (X : (Mine.hd.heap_39 w.params).In base) (N : News base L s.heap news) (T : Top Mine.view (looseW Mine.view []) mean mg mb base) (hk : cs.kind = .function)
  (m1 : (xi, instObj 265 di) ∈ news)
  (m2 : (di, dictOf [⟨PyData.keyHash w.params (Str.ofString "user_order"), .str (Str.ofString "user_order") ti, .ref xb⟩] 1) ∈ news)
  (m3 : (xb, instObj 211 db) ∈ news)
  (m4 : (db, dictOf [] 0) ∈ news)
  (hz : b.size < 8)
  (K : KeyOf c ua s0 k0)
  (hret : ∀ t' (h' : Heap) (tk' : Nat), Fr base L h' m → News base L h' news → Q (.int 10 t') { s with heap := h', toks := tk' }) :
  wpAny (model Challenge.rw_xw0260_01.row.prog w) (callerA.deeper (envX cn cs L a ccd cl)) (call (.ref 305) [.ref xi, .bytes b u, .bytes c v]) Q E s := by
  revert X; k_fill; intro X
  obtain ⟨ks1, e1, hb1, h81, h91⟩ := K.open
  refine wpAny_call ?_
  k_dflt (refine' code_defS0X ?k1 ?k2 ?k3 ?k4 ?k5 ?kA ?k6 ?k7 ?k8 ?k9 ?kB ?_ ?cK ?c2 ?c3 ?c4 ?c5; (case kA => exact rfl); (case k2 => k_asm); (case k1 => k_asm); (case k3 => k_asm); (case k4 => k_asm); (case k5 => k_asm); (case k6 => k_is); (case k7 => k_is); (case k8 => k_room); (case k9 => exact BindsTo.of_eq rfl); (case kB => exact locs rfl); (case cK => assumption); (case c2 => exact rfl); (case c3 => exact rfl); (case c4 => exact rfl); (case c5 => decide); k_whole; intro g' L' h' FG' F' N' B' X' T' D'; (try dsimp only); (try k_fold))
  k_steps
  refine RestG.facts (P := fun i g m9 => KtsTurn ([envX cn cs L a ccd cl].filterMap (·.frame)) g' g ∧ Below (callerA.deeper (envX cn cs L a ccd cl)) base [envX cn cs L a ccd cl] g ∧ (Mine.hd.heap_39 w.params).In g ∧ Top Mine.view (looseW Mine.view []) mean mg mb g ∧ KtsDicts ([envX cn cs L a ccd cl].filterMap (·.frame)) g ∧
    m9 (Str.ofString "inner") = some (.ref xi) ∧ m9 (Str.ofString "short") = some (.bytes b u) ∧ m9 (Str.ofString "key") = some (.bytes c v) ∧ ∃ t9, m9 (Str.ofString "count") = some (.int (i : Int) t9)) ?_ ?_ _ _ _ _ rfl ?_
  · intro i g m9 t9 h9 tk9 hi9 hp F9 N9
    obtain ⟨T9, B9, X9, P9, D9, f1, f2, f3, t8, f4⟩ := hp
    k_steps
    all_goals first | assumption | exact ⟨_, rfl⟩ | rfl
  · intro g m9 h9 tk9 hp F9 N9
    obtain ⟨T9, B9, X9, P9, D9, f1, f2, f3, t8, f4⟩ := hp
    k_steps
    all_goals exact hret _ _ _ (by assumption) (by assumption)
  · exact ⟨KtsTurn.refl, by assumption, by assumption, by assumption, by assumption, rfl, rfl, rfl, ⟨_, rfl⟩⟩
theorem lines_52 : True := by
  k_with "m call ref" => (k_here; (with_reducible show wpAny _ _ (call (Value.ref 305) [Value.ref _, Value.bytes _ _, Value.bytes _ _]) _ _ _); k_dflt (refine' corrupt_c ?z9B ?z9F ?z9X ?z9N ?z9T ?z9hk ?z9hm1 ?z9hm2 ?z9hm3 ?z9hm4 ?z9hhz ?z9hK ?_; (case z9B => k_asm); (case z9F => k_asm); (case z9X => k_asm); (case z9N => k_asm); (case z9T => k_asm); (case z9hk => first | exact rfl | assumption); (case z9hm1 => k_mem); (case z9hm2 => k_mem); (case z9hm3 => k_mem); (case z9hm4 => k_mem); (case z9hhz => with_reducible assumption); (case z9hK => with_reducible assumption); k_whole); intro r0Z hZ tkZ  FZ NZ; (try dsimp only); (try k_sweep); walk_say "BY corrupt_c")
  trivial

def lawStmt : Stmt := (Challenge.rw_xw0260_01.row.prog.main.body.getLast?).getD (.Pass default)
def lawBody : List Stmt := match lawStmt with | .FunctionDef _ _ b .. => b | _ => []
def lawScope : Scope := match lawStmt with | .FunctionDef _ _ _ _ _ _ sc .. => sc | _ => default
/-- no entry lies at a -/
def OffAt (a : Addr) (l : List (Addr × Obj)) : Prop := ∀ p ∈ l, p.1 ≠ a
/-- the object that holds its user's order -/
abbrev innerDict (w : World) (t : Tok) (xb : Addr) : Obj := dictOf [⟨PyData.keyHash w.params (Str.ofString "user_order"), .str (Str.ofString "user_order") t, .ref xb⟩] 1
/-- what stands through the whole law -/
def Fixed (w : World) (fx : List (Addr × Obj)) (an : Addr) (nv : List Value) (e : Nat) (xr dr xp dp xi di : Addr) (ti : Tok) (xb db : Addr) : Prop :=
  (an, listOf nv.toArray e) ∈ fx ∧ (xr, instObj 176 dr) ∈ fx ∧ (dr, dictOf [] 0) ∈ fx ∧ (xp, instObj 211 dp) ∈ fx ∧ (dp, dictOf [] 0) ∈ fx ∧
  (xi, instObj 265 di) ∈ fx ∧ (di, innerDict w ti xb) ∈ fx ∧ (xb, instObj 211 db) ∈ fx ∧ (db, dictOf [] 0) ∈ fx
def Named (m : Str → Option Value) (an xr xp xi : Addr) : Prop :=
  m (Str.ofString "nums") = some (.ref an) ∧ m (Str.ofString "root") = some (.ref xr) ∧ m (Str.ofString "plain") = some (.ref xp) ∧ m (Str.ofString "inner") = some (.ref xi)
theorem seg1_pack {w : World} {base h' : Heap} {L an xr dr xp dp xi di xb db lh : Addr} {nx : List (Addr × Obj)} {nv : List Value} {e : Nat} {ti : Tok} {o : Obj} {P : Prop} (N : News base L h' nx)
    (h0 : (lh, listOf #[] 0) ∈ nx) (hc : (L + 1, o) ∈ nx) (hf : Fixed w nx an nv e xr dr xp dp xi di ti xb db)
    (hne : (an ≠ lh ∧ xr ≠ lh ∧ dr ≠ lh ∧ xp ≠ lh ∧ dp ≠ lh ∧ xi ≠ lh ∧ di ≠ lh ∧ xb ≠ lh ∧ db ≠ lh) ∧ (an ≠ L + 1 ∧ xr ≠ L + 1 ∧ dr ≠ L + 1 ∧ xp ≠ L + 1 ∧ dp ≠ L + 1 ∧ xi ≠ L + 1 ∧ di ≠ L + 1 ∧ xb ≠ L + 1 ∧ db ≠ L + 1))
    (k : ∀ fx, News base L h' ((lh, listOf #[] 0) :: (L + 1, o) :: fx) → OffAt lh fx → OffAt (L + 1) fx → Fixed w fx an nv e xr dr xp dp xi di ti xb db → P) : P := by
  obtain ⟨f1, f2, f3, f4, f5, f6, f7, f8, f9⟩ := hf
  obtain ⟨⟨a1, a2, a3, a4, a5, a6, a7, a8, a9⟩, b1, b2, b3, b4, b5, b6, b7, b8, b9⟩ := hne
  refine k [(an, listOf nv.toArray e), (xr, instObj 176 dr), (dr, dictOf [] 0), (xp, instObj 211 dp), (dp, dictOf [] 0), (xi, instObj 265 di), (di, innerDict w ti xb), (xb, instObj 211 db), (db, dictOf [] 0)] ?_ ?_ ?_ ?_
  · intro p hp
    simp only [List.mem_cons, List.not_mem_nil, or_false] at hp
    rcases hp with rfl | rfl | rfl | rfl | rfl | rfl | rfl | rfl | rfl | rfl | rfl <;> exact N _ (by assumption)
  · intro p hp
    simp only [List.mem_cons, List.not_mem_nil, or_false] at hp
    rcases hp with rfl | rfl | rfl | rfl | rfl | rfl | rfl | rfl | rfl <;> assumption
  · intro p hp
    simp only [List.mem_cons, List.not_mem_nil, or_false] at hp
    rcases hp with rfl | rfl | rfl | rfl | rfl | rfl | rfl | rfl | rfl <;> assumption
  · simp only [Fixed, List.mem_cons, true_or, or_true, and_self]
theorem numsOk_map {ns : List Int} (h : ¬ ((ns.map fun k => k % 999983).length : Int) = 0 ∨ ((ns.map fun k => k % 999983).length : Int) ≠ 0) (h8 : ns.length ≤ 8) : NumsOk (ns.map fun k => k % 999983) := by
  refine ⟨by omega, by rw [List.length_map]; exact h8, fun n hn => ?_⟩
  obtain ⟨k, _, rfl⟩ := List.mem_map.mp hn
  show 0 ≤ k % 999983 ∧ k % 999983 < 999983
  omega
theorem numsOk_one : NumsOk [12012] := ⟨by decide, by decide, fun n hn => by simp only [List.mem_cons, List.not_mem_nil, or_false] at hn; subst hn; decide⟩
theorem lines_53 : True := by
  k_with_none
  k_with "m call type:bytes" => (k_here; (with_reducible show wpAny _ _ (call (Value.type _) [Value.bytes _ _]) _ _ _); refine bytes_bytes ?_)
  k_with "m call type:bytes" => (k_here; (with_reducible show wpAny _ _ (call (Value.type _) [Value.ref _]) _ _ _); k_dflt (refine' bytes_ba_K ?z9N ?z9m ?z9k ?z9z ?_; (case z9N => k_asm); (case z9m => k_mem); (case z9k => kba_ints); (case z9z => kba_size); k_whole); intro _ _)
  k_with "m call builtin:len" => (k_here; (with_reducible show wpAny _ _ (call (Value.builtin _) [Value.ref _]) _ _ _); k_dflt (refine' len_ba ?z9N ?z9m ?z9k ?z9z ?_; (case z9N => k_asm); (case z9m => k_mem); (case z9k => kba_ints); (case z9z => kba_size); k_whole))
  k_with "m subscriptTail" => (k_here; (with_reducible show wpAny _ _ (subscriptTail _ _ (Value.ref _) (Value.int _ _)) _ _ _); k_dflt (refine' item_ba ?z9N ?z9m ?z9k ?z9z ?z9l ?z9u ?_ ?z9hs ?z9ht; (case z9N => k_asm); (case z9m => k_mem); (case z9k => kba_ints); (case z9z => kba_size); (case z9l => kba_idx); (case z9u => kba_idx); (case z9hs => with_unfolding_all rfl); (case z9ht => intro _; with_unfolding_all rfl); k_whole); intro _ _ baLoZ baHiZ)
  k_with "m subscriptTail" => (k_here; (with_reducible show wpAny _ _ (subscriptTail _ (Expr.Slice _ _ none _) (Value.ref _) (Value.ref _)) _ _ _); (with_reducible rename Fr _ _ _ _ => FZ); (with_reducible rename News _ _ _ _ => NZ); (refine' cut_ba (s := ⟨_, _, _, _, _⟩) FZ NZ ?z9m ?z9k ?z9l ?z9u ?z9z ?_ ?z9hs ?z9ht; (case z9m => k_mem); (case z9k => kba_ints); (case z9l => constructor); (case z9u => constructor); (case z9z => kba_size); (case z9hs => with_unfolding_all rfl); (case z9ht => intro _; with_unfolding_all rfl)); intro _ _ _ FZ NZ l1Z kbcKZ; (try k_lt l1Z); (try simp only [Option.elim, KBc.clip_lit, clipAt_nat, List.drop_zero, Nat.sub_zero] at kbcKZ); (try k_sweep))
  k_with "m compareOp Lt bytes bytes" => refine lt_bytes ?_
  k_with "m compareOp Gt bytes bytes" => refine gt_bytes ?_
  k_with "m binaryOp LShift int int" => (k_here; first
    | ((with_reducible show wpAny _ _ (binaryOp Operator.LShift (Value.int _ _) (Value.int 8 _)) _ _ _); k_dflt (refine shl_K (n := 8) 256 (by decide +kernel) (by decide +kernel) (by decide +kernel) ?_ ?_ ?_; omega; omega; (try dsimp only)))
    | ((with_reducible show wpAny _ _ (binaryOp Operator.LShift (Value.int _ _) (Value.int 16 _)) _ _ _); k_dflt (refine shl_K (n := 16) 65536 (by decide +kernel) (by decide +kernel) (by decide +kernel) ?_ ?_ ?_; omega; omega; (try dsimp only)))
    | ((with_reducible show wpAny _ _ (binaryOp Operator.LShift (Value.int _ _) (Value.int 24 _)) _ _ _); k_dflt (refine shl_K (n := 24) 16777216 (by decide +kernel) (by decide +kernel) (by decide +kernel) ?_ ?_ ?_; omega; omega; (try dsimp only)))
    | ((with_reducible show wpAny _ _ (binaryOp Operator.LShift (Value.int _ _) (Value.int 32 _)) _ _ _); k_dflt (refine shl_K (n := 32) 4294967296 (by decide +kernel) (by decide +kernel) (by decide +kernel) ?_ ?_ ?_; omega; omega; (try dsimp only))))
  k_with "m binaryOp RShift int int" => (k_here; first
    | ((with_reducible show wpAny _ _ (binaryOp Operator.RShift (Value.int _ _) (Value.int 8 _)) _ _ _); k_dflt (refine shr_K (n := 8) 256 (by decide +kernel) (by decide +kernel) ?_ ?_; omega))
    | ((with_reducible show wpAny _ _ (binaryOp Operator.RShift (Value.int _ _) (Value.int 16 _)) _ _ _); k_dflt (refine shr_K (n := 16) 65536 (by decide +kernel) (by decide +kernel) ?_ ?_; omega))
    | ((with_reducible show wpAny _ _ (binaryOp Operator.RShift (Value.int _ _) (Value.int 24 _)) _ _ _); k_dflt (refine shr_K (n := 24) 16777216 (by decide +kernel) (by decide +kernel) ?_ ?_; omega))
    | ((with_reducible show wpAny _ _ (binaryOp Operator.RShift (Value.int _ _) (Value.int 32 _)) _ _ _); k_dflt (refine shr_K (n := 32) 4294967296 (by decide +kernel) (by decide +kernel) ?_ ?_; omega)))
  k_with "m binaryOp BitOr int int" => (k_here; with_reducible (first
    | (refine or_lo_K 256 8 (by decide +kernel) ?_ ?_ ?_ ?_; omega; omega; omega; (try dsimp only))
    | (refine or_lo_K 65536 16 (by decide +kernel) ?_ ?_ ?_ ?_; omega; omega; omega; (try dsimp only))
    | (refine or_lo_K 16777216 24 (by decide +kernel) ?_ ?_ ?_ ?_; omega; omega; omega; (try dsimp only))
    | (refine or_lo_K 4294967296 32 (by decide +kernel) ?_ ?_ ?_ ?_; omega; omega; omega; (try dsimp only))
    | (refine or_hi_K 256 8 (by decide +kernel) ?_ ?_ ?_ ?_; omega; omega; omega; (try dsimp only))))
  k_with "m binaryOp BitAnd int int" => (k_here; with_reducible (first | refine and8_K ?_ | refine and32_K ?_))
  k_with "m binaryOp Add bytes bytes" => (k_here; (with_reducible show wpAny _ _ (binaryOp Operator.Add (Value.bytes _ _) (Value.bytes _ _)) _ _ _); (refine' KBa.add_K ?z9p ?z9q ?z9z ?_); (case z9p => kba_ints); (case z9q => kba_ints); (case z9z => (try simp only [le8_length, le4_length, List.length_append, List.length_take, List.length_drop, List.length_cons, List.length_nil]) <;> omega); intro _ _ hAddZ; (try dsimp only))
  k_with "m compareOp Lt ref ref" => (k_here; (with_reducible show wpAny _ _ (compareOp CmpOp.Lt (Value.ref _) (Value.ref _)) _ _ _); k_dflt (refine' lt_tup ?z9N ?z9x ?z9y ?z9u ?_; (case z9N => k_asm); (case z9x => k_mem); (case z9y => k_mem); (case z9u => first | ktr_units | k_units); k_whole))
  k_with "m call builtin:len" => (k_here; (with_reducible show wpAny _ _ (call (Value.builtin _) [Value.ref _]) _ _ _); k_dflt (refine' call_len_list ?z9l ?z9f ?_; (case z9l => exact News.isList (by k_asm) (by k_mem)); (case z9f => (simp only [List.size_toArray]; first | omega | ((have hL9 := IntsAre.length (by assumption)); omega))); k_whole))
  k_with "m k_all" => first | assumption | (refine' off_of_lt ?z9lt9 ?z9le9; (case z9lt9 => assumption); (case z9le9 => ((try dsimp only); omega)))
  k_with "m binaryOp Pow int int" => (k_here; (with_reducible refine pow_K ?_ ?_ ?_ ?_ ?_); (focus omega); (focus first | (refine' pow_lim ?z9pa ?z9pb; (case z9pa => with_reducible assumption); (case z9pb => omega)) | omega); omega; omega; intro hPow9Z hLog9Z; (try dsimp only))
  k_with "m call type:bytes" => (k_here; (with_reducible show wpAny _ _ (call (Value.type _) [Value.ref _]) _ _ _); k_dflt (refine' KBa.make_K ?z9mkF ?z9mkN ?z9mkh ?z9mkl ?z9mki ?z9mkr ?z9mkz ?_; (case z9mkF => k_asm); (case z9mkN => k_asm); (case z9mkl => is_list); (case z9mki => first | l_ints | l_intsW); (case z9mkr => (intro n9Z hn9Z; (simp only [List.mem_cons, List.not_mem_nil, or_false] at hn9Z); rcases hn9Z with rfl; refine menu_b ?_ ?_ ?_ _ <;> decide)); (case z9mkz => (simp only [List.length_cons, List.length_nil]; omega)); (case z9mkh => with_unfolding_all rfl); k_whole); intro hZ tZ kZ FZ NZ hIn9Z; (try k_sweep))
  k_with "m binaryOp FloorDiv int int" => (k_here; (with_reducible refine fdiv_K ?_ ?_ ?_); (focus omega); (focus first | assumption | (refine log_small ?_ ?_ <;> omega)); (try dsimp only))
  k_with "m binaryOp Mod int int" => (k_here; (with_reducible refine fmod_K ?_ ?_); (focus omega); (try dsimp only))
  k_with "m eval ListComp" => (k_here; (with_reducible show wpAny _ _ (eval (Expr.ListComp _ _ _ _) _) _ _ _); kcf_look; k_dflt (refine LCg.ListComp_U (F₀ := by k_asm) (by with_unfolding_all rfl) (by decide) (by rfl) (by decide) (by rfl) ?_))
  k_with "m formatField int" => (k_here; (refine fmt_int (by with_reducible assumption) ?_); intro y9Z hy9Z; (try dsimp only))
  k_with "m And" => (k_here; (with_reducible show PySem.Str.length (_ ++ _) ≤ sizeLine ∧ _); first | ((with_reducible refine' ⟨fit_y ?z9ya ?z9yb, ?_⟩); (case z9ya => with_reducible assumption); (case z9yb => decide +kernel)) | ((with_reducible show PySem.Str.length (_ ++ _ ++ _) ≤ sizeLine ∧ _); (with_reducible refine' ⟨fit_yl ?z9ya ?z9yb ?z9yc, ?_⟩); (case z9ya => with_reducible assumption); (case z9yb => decide +kernel); (case z9yc => decide +kernel)))
  k_with "m joinParts" => (k_here; (with_reducible show wpAny _ _ (joinParts _ (evalEach [] _)) _ _ _); (with_reducible refine joinParts_nilE ?_); (with_reducible refine' joinParts_nil ?_ ?z9jz); (case z9jz => first | ((with_reducible show PySem.Str.length (_ ++ _ ++ _) ≤ sizeLine); (with_reducible refine' fit_yl ?z9ya ?z9yb ?z9yc); (case z9ya => with_reducible assumption); (case z9yb => decide +kernel); (case z9yc => decide +kernel)) | ((with_reducible refine' fit_y ?z9ya ?z9yb); (case z9ya => with_reducible assumption); (case z9yb => decide +kernel))); (try dsimp only))
  k_with "m formatField int" => (k_here; (refine' fmt_int (shown (N := 1000) ?z9u1 ?z9u2 ?z9u3) ?_; (case z9u1 => omega); (case z9u2 => omega); (case z9u3 => decide +kernel)); intro y9Z hy9Z; (try dsimp only))
  k_with "m call ref" => (k_here; (with_reducible show wpAny _ _ (call (Value.ref 131) [Value.bytes _ _]) _ _ _); k_dflt (refine' user_of_bytes ?z9B ?z9F ?z9X ?z9N ?z9T ?z9hk ?z9hhb ?z9hhlen ?z9hhz ?z9hd ?z9hu ?_; (case z9B => k_asm); (case z9F => k_asm); (case z9X => k_asm); (case z9N => k_asm); (case z9T => k_asm); (case z9hk => first | exact rfl | assumption); (case z9hhb => kba_ints); (case z9hhlen => first | omega | kba_size | l_fact); (case z9hhz => first | omega | kba_size | l_fact); (case z9hd => ktr_room); (case z9hu => ktr_units); k_whole); intro r0Z r1Z hZ tkZ hRZ FZ NZ; (try dsimp only); (try k_sweep); walk_say "BY user_of_bytes")
  k_with "m call ref" => (k_here; (with_reducible show wpAny _ _ (call (Value.ref 131) [Value.ref _]) _ _ _); k_dflt (refine' user_of_ba ?z9B ?z9F ?z9X ?z9N ?z9T ?z9hk ?z9hhx ?z9hhb ?z9hhlen ?z9hhz ?z9hd ?z9hu ?_; (case z9B => k_asm); (case z9F => k_asm); (case z9X => k_asm); (case z9N => k_asm); (case z9T => k_asm); (case z9hk => first | exact rfl | assumption); (case z9hhx => k_mem); (case z9hhb => kba_ints); (case z9hhlen => first | omega | kba_size | l_fact); (case z9hhz => first | omega | kba_size | l_fact); (case z9hd => ktr_room); (case z9hu => ktr_units); k_whole); intro r0Z r1Z hZ tkZ hRZ FZ NZ; (try dsimp only); (try k_sweep); walk_say "BY user_of_ba")
  k_with "m call ref" => (k_here; (with_reducible show wpAny _ _ (call (Value.ref 96) [Value.bytes _ _, Value.int _ _]) _ _ _); k_dflt (refine' rf32_bytes ?z9B ?z9F ?z9X ?z9N ?z9T ?z9hk ?z9hhb ?z9hh0 ?z9hh1 ?z9hhz ?z9hd ?z9hu ?_; (case z9B => k_asm); (case z9F => k_asm); (case z9X => k_asm); (case z9N => k_asm); (case z9T => k_asm); (case z9hk => first | exact rfl | assumption); (case z9hhb => kba_ints); (case z9hh0 => first | omega | kba_size | l_fact); (case z9hh1 => first | omega | kba_size | l_fact); (case z9hhz => first | omega | kba_size | l_fact); (case z9hd => ktr_room); (case z9hu => ktr_units); k_whole); intro r0Z hZ tkZ hR0Z hR1Z FZ NZ; (try dsimp only); (try k_sweep); walk_say "BY rf32_bytes")
  k_with "m call ref" => (k_here; (with_reducible show wpAny _ _ (call (Value.ref 96) [Value.ref _, Value.int _ _]) _ _ _); k_dflt (refine' rf32_ba ?z9B ?z9F ?z9X ?z9N ?z9T ?z9hk ?z9hhx ?z9hhb ?z9hh0 ?z9hh1 ?z9hhz ?z9hd ?z9hu ?_; (case z9B => k_asm); (case z9F => k_asm); (case z9X => k_asm); (case z9N => k_asm); (case z9T => k_asm); (case z9hk => first | exact rfl | assumption); (case z9hhx => k_mem); (case z9hhb => kba_ints); (case z9hh0 => first | omega | kba_size | l_fact); (case z9hh1 => first | omega | kba_size | l_fact); (case z9hhz => first | omega | kba_size | l_fact); (case z9hd => ktr_room); (case z9hu => ktr_units); k_whole); intro r0Z hZ tkZ hR0Z hR1Z FZ NZ; (try dsimp only); (try k_sweep); walk_say "BY rf32_ba")
  k_with "m call ref" => (k_here; (with_reducible show wpAny _ _ (call (Value.ref 103) [Value.bytes _ _, Value.int _ _]) _ _ _); k_dflt (refine' rf64_bytes ?z9B ?z9F ?z9X ?z9N ?z9T ?z9hk ?z9hhb ?z9hh0 ?z9hh1 ?z9hhz ?z9hd ?z9hu ?_; (case z9B => k_asm); (case z9F => k_asm); (case z9X => k_asm); (case z9N => k_asm); (case z9T => k_asm); (case z9hk => first | exact rfl | assumption); (case z9hhb => kba_ints); (case z9hh0 => first | omega | kba_size | l_fact); (case z9hh1 => first | omega | kba_size | l_fact); (case z9hhz => first | omega | kba_size | l_fact); (case z9hd => ktr_room); (case z9hu => ktr_units); k_whole); intro r0Z hZ tkZ hR0Z hR1Z FZ NZ; (try dsimp only); (try k_sweep); walk_say "BY rf64_bytes")
  k_with "m call ref" => (k_here; (with_reducible show wpAny _ _ (call (Value.ref 103) [Value.ref _, Value.int _ _]) _ _ _); k_dflt (refine' rf64_ba ?z9B ?z9F ?z9X ?z9N ?z9T ?z9hk ?z9hhx ?z9hhb ?z9hh0 ?z9hh1 ?z9hhz ?z9hd ?z9hu ?_; (case z9B => k_asm); (case z9F => k_asm); (case z9X => k_asm); (case z9N => k_asm); (case z9T => k_asm); (case z9hk => first | exact rfl | assumption); (case z9hhx => k_mem); (case z9hhb => kba_ints); (case z9hh0 => first | omega | kba_size | l_fact); (case z9hh1 => first | omega | kba_size | l_fact); (case z9hhz => first | omega | kba_size | l_fact); (case z9hd => ktr_room); (case z9hu => ktr_units); k_whole); intro r0Z hZ tkZ hR0Z hR1Z FZ NZ; (try dsimp only); (try k_sweep); walk_say "BY rf64_ba")
  k_with "m call ref" => (k_here; (with_reducible show wpAny _ _ (call (Value.ref 138) [Value.bytes _ _]) _ _ _); k_dflt (refine' tag_of_bytes ?z9B ?z9F ?z9X ?z9N ?z9T ?z9hk ?z9hhb ?z9hhlen ?z9hhz ?z9hd ?z9hu ?_; (case z9B => k_asm); (case z9F => k_asm); (case z9X => k_asm); (case z9N => k_asm); (case z9T => k_asm); (case z9hk => first | exact rfl | assumption); (case z9hhb => kba_ints); (case z9hhlen => first | omega | kba_size | l_fact); (case z9hhz => first | omega | kba_size | l_fact); (case z9hd => ktr_room); (case z9hu => ktr_units); k_whole); intro r0Z hZ tkZ hR0Z hR1Z FZ NZ; (try dsimp only); (try k_sweep); walk_say "BY tag_of_bytes")
  k_with "m call ref" => (k_here; (with_reducible show wpAny _ _ (call (Value.ref 138) [Value.ref _]) _ _ _); k_dflt (refine' tag_of_ba ?z9B ?z9F ?z9X ?z9N ?z9T ?z9hk ?z9hhx ?z9hhb ?z9hhlen ?z9hhz ?z9hd ?z9hu ?_; (case z9B => k_asm); (case z9F => k_asm); (case z9X => k_asm); (case z9N => k_asm); (case z9T => k_asm); (case z9hk => first | exact rfl | assumption); (case z9hhx => k_mem); (case z9hhb => kba_ints); (case z9hhlen => first | omega | kba_size | l_fact); (case z9hhz => first | omega | kba_size | l_fact); (case z9hd => ktr_room); (case z9hu => ktr_units); k_whole); intro r0Z hZ tkZ hR0Z hR1Z FZ NZ; (try dsimp only); (try k_sweep); walk_say "BY tag_of_ba")
  k_with "m call ref" => (k_here; (with_reducible show wpAny _ _ (call (Value.ref 110) [Value.int _ _, Value.int _ _]) _ _ _); k_dflt (refine' pack_tag_c ?z9B ?z9F ?z9X ?z9N ?z9T ?z9hk ?z9hh0 ?z9hh1 ?z9hh2 ?z9hd ?z9hu ?_; (case z9B => k_asm); (case z9F => k_asm); (case z9X => k_asm); (case z9N => k_asm); (case z9T => k_asm); (case z9hk => first | exact rfl | assumption); (case z9hh0 => first | omega | kba_size | l_fact); (case z9hh1 => first | omega | kba_size | l_fact); (case z9hh2 => first | omega | kba_size | l_fact); (case z9hd => ktr_room); (case z9hu => ktr_units); k_whole); intro r0Z hZ tkZ  FZ NZ; (try dsimp only); (try k_sweep); walk_say "BY pack_tag_c")
  k_with "m call ref" => (k_here; (with_reducible show wpAny _ _ (call (Value.ref 82) [Value.int _ _]) _ _ _); k_dflt (refine' pf32 ?z9B ?z9F ?z9X ?z9N ?z9T ?z9hk ?z9hh0 ?z9hh1 ?z9hd ?z9hu ?_; (case z9B => k_asm); (case z9F => k_asm); (case z9X => k_asm); (case z9N => k_asm); (case z9T => k_asm); (case z9hk => first | exact rfl | assumption); (case z9hh0 => first | omega | kba_size | l_fact); (case z9hh1 => first | omega | kba_size | l_fact); (case z9hd => ktr_room); (case z9hu => ktr_units); k_whole); intro r0Z r1Z hZ tkZ hR0Z FZ NZ; (try dsimp only); (try k_sweep); walk_say "BY pf32")
  k_with "m call ref" => (k_here; (with_reducible show wpAny _ _ (call (Value.ref 89) [Value.int _ _]) _ _ _); k_dflt (refine' pf64 ?z9B ?z9F ?z9X ?z9N ?z9T ?z9hk ?z9hh0 ?z9hh1 ?z9hd ?z9hu ?_; (case z9B => k_asm); (case z9F => k_asm); (case z9X => k_asm); (case z9N => k_asm); (case z9T => k_asm); (case z9hk => first | exact rfl | assumption); (case z9hh0 => first | omega | kba_size | l_fact); (case z9hh1 => first | omega | kba_size | l_fact); (case z9hd => ktr_room); (case z9hu => ktr_units); k_whole); intro r0Z r1Z hZ tkZ hR0Z FZ NZ; (try dsimp only); (try k_sweep); walk_say "BY pf64")
  k_with "m call ref" => (k_here; (with_reducible show wpAny _ _ (call (Value.ref 117) [Value.bytes _ _, Value.int _ _, Value.int _ _]) _ _ _); k_dflt (refine' make_ikey_bytes ?z9B ?z9F ?z9X ?z9N ?z9T ?z9hk ?z9hhb ?z9hhz ?z9hh0 ?z9hh1 ?z9hh2 ?z9hd ?z9hu ?_; (case z9B => k_asm); (case z9F => k_asm); (case z9X => k_asm); (case z9N => k_asm); (case z9T => k_asm); (case z9hk => first | exact rfl | assumption); (case z9hhb => kba_ints); (case z9hhz => first | omega | kba_size | l_fact); (case z9hh0 => first | omega | kba_size | l_fact); (case z9hh1 => first | omega | kba_size | l_fact); (case z9hh2 => first | omega | kba_size | l_fact); (case z9hd => ktr_room); (case z9hu => ktr_units); k_whole); intro r0Z r1Z hZ tkZ hR0Z FZ NZ; (try dsimp only); (try k_sweep); walk_say "BY make_ikey_bytes")
  k_with "m call ref" => (k_here; (with_reducible show wpAny _ _ (call (Value.ref 117) [Value.ref _, Value.int _ _, Value.int _ _]) _ _ _); k_dflt (refine' make_ikey_ba ?z9B ?z9F ?z9X ?z9N ?z9T ?z9hk ?z9hhx ?z9hhb ?z9hhz ?z9hh0 ?z9hh1 ?z9hh2 ?z9hd ?z9hu ?_; (case z9B => k_asm); (case z9F => k_asm); (case z9X => k_asm); (case z9N => k_asm); (case z9T => k_asm); (case z9hk => first | exact rfl | assumption); (case z9hhx => k_mem); (case z9hhb => kba_ints); (case z9hhz => first | omega | kba_size | l_fact); (case z9hh0 => first | omega | kba_size | l_fact); (case z9hh1 => first | omega | kba_size | l_fact); (case z9hh2 => first | omega | kba_size | l_fact); (case z9hd => ktr_room); (case z9hu => ktr_units); k_whole); intro r0Z r1Z hZ tkZ hR0Z FZ NZ; (try dsimp only); (try k_sweep); walk_say "BY make_ikey_ba")
  k_with "m call ref" => (k_here; (with_reducible show wpAny _ _ (call (Value.ref 152) [Value.ref _, Value.bytes _ _, Value.bytes _ _]) _ _ _); k_dflt (refine' cmp_plain ?z9B ?z9F ?z9X ?z9N ?z9T ?z9hk  ?z9hd ?z9hu ?_; (case z9B => k_asm); (case z9F => k_asm); (case z9X => k_asm); (case z9N => k_asm); (case z9T => k_asm); (case z9hk => first | exact rfl | assumption);  (case z9hd => ktr_room); (case z9hu => ktr_units); k_whole); intro r0Z hZ tkZ  FZ NZ; (try dsimp only); (try k_sweep); walk_say "BY cmp_plain")
  k_with "m call ref" => (k_here; (with_reducible show wpAny _ _ (call (Value.ref 286) [Value.bytes _ _, Value.bytes _ _]) _ _ _); k_dflt (refine' side_bytes ?z9B ?z9F ?z9X ?z9N ?z9T ?z9hk  ?z9hd ?z9hu ?_; (case z9B => k_asm); (case z9F => k_asm); (case z9X => k_asm); (case z9N => k_asm); (case z9T => k_asm); (case z9hk => first | exact rfl | assumption);  (case z9hd => ktr_room); (case z9hu => ktr_units); k_whole); intro r0Z hZ tkZ  FZ NZ; (try dsimp only); (try k_sweep); walk_say "BY side_bytes")
  k_with "m call ref" => (k_here; (with_reducible show wpAny _ _ (call (Value.ref 159) [Value.ref _, Value.bytes _ _, Value.bytes _ _]) _ _ _); k_dflt (refine' sep_bytes ?z9B ?z9F ?z9X ?z9N ?z9T ?z9hk  ?z9hd ?z9hu ?_; (case z9B => k_asm); (case z9F => k_asm); (case z9X => k_asm); (case z9N => k_asm); (case z9T => k_asm); (case z9hk => first | exact rfl | assumption);  (case z9hd => ktr_room); (case z9hu => ktr_units); k_whole); intro r0Z hZ tkZ  FZ NZ; (try dsimp only); (try k_sweep); walk_say "BY sep_bytes")
  k_with "m call ref" => (k_here; (with_reducible show wpAny _ _ (call (Value.ref 159) [Value.ref _, Value.ref _, Value.bytes _ _]) _ _ _); k_dflt (refine' sep_ba ?z9B ?z9F ?z9X ?z9N ?z9T ?z9hk ?z9hhx ?z9hhb ?z9hhz ?z9hd ?z9hu ?_; (case z9B => k_asm); (case z9F => k_asm); (case z9X => k_asm); (case z9N => k_asm); (case z9T => k_asm); (case z9hk => first | exact rfl | assumption); (case z9hhx => k_mem); (case z9hhb => kba_ints); (case z9hhz => first | omega | kba_size | l_fact); (case z9hd => ktr_room); (case z9hu => ktr_units); k_whole); intro r0Z hZ tkZ  FZ NZ; (try dsimp only); (try k_sweep); walk_say "BY sep_ba")
  k_with "m call ref" => (k_here; (with_reducible show wpAny _ _ (call (Value.ref 166) [Value.ref _, Value.ref _]) _ _ _); k_dflt (refine' succ_ba ?z9B ?z9F ?z9X ?z9N ?z9T ?z9hk ?z9hhx ?z9hhb ?z9hhz ?z9hd ?z9hu ?_; (case z9B => k_asm); (case z9F => k_asm); (case z9X => k_asm); (case z9N => k_asm); (case z9T => k_asm); (case z9hk => first | exact rfl | assumption); (case z9hhx => k_mem); (case z9hhb => kba_ints); (case z9hhz => first | omega | kba_size | l_fact); (case z9hd => ktr_room); (case z9hu => ktr_units); k_whole); intro r0Z hZ tkZ  FZ NZ; (try dsimp only); (try k_sweep); walk_say "BY succ_ba")
  k_with "m call ref" => (k_here; (with_reducible show wpAny _ _ (call (Value.ref 286) [Value.ref _, Value.ref _]) _ _ _); k_dflt (refine' side_tup ?z9B ?z9F ?z9X ?z9N ?z9T ?z9hk ?z9hhx ?z9hhy ?z9hd ?z9hu ?_; (case z9B => k_asm); (case z9F => k_asm); (case z9X => k_asm); (case z9N => k_asm); (case z9T => k_asm); (case z9hk => first | exact rfl | assumption); (case z9hhx => k_mem); (case z9hhy => k_mem); (case z9hd => ktr_room); (case z9hu => ktr_units); k_whole); intro r0Z hZ tkZ  FZ NZ; (try dsimp only); (try k_sweep); walk_say "BY side_tup")
  k_with "m call ref" => (k_here; (with_reducible show wpAny _ _ (call (Value.ref 274) [Value.ref _, Value.int _ _]) _ _ _); k_dflt (refine' draw_c ?z9B ?z9F ?z9X ?z9N ?z9T ?z9hk ?z9hhx ?z9hhi ?z9hhp ?z9hh8 ?z9hha ?z9hh0 ?z9hh1 ?z9hd ?z9hu ?_; (case z9B => k_asm); (case z9F => k_asm); (case z9X => k_asm); (case z9N => k_asm); (case z9T => k_asm); (case z9hk => first | exact rfl | assumption); (case z9hhx => k_mem); (case z9hhi => assumption); (case z9hhp => first | omega | kba_size | l_fact); (case z9hh8 => first | omega | kba_size | l_fact); (case z9hha => assumption); (case z9hh0 => first | omega | kba_size | l_fact); (case z9hh1 => first | omega | kba_size | l_fact); (case z9hd => ktr_room); (case z9hu => ktr_units); k_whole); intro r0Z r1Z hZ tkZ hR0Z hR1Z FZ NZ; (try dsimp only); (try k_sweep); walk_say "BY draw_c")
  k_with "m call ref" => (k_here; (with_reducible show wpAny _ _ (call (Value.ref 279) [Value.int _ _, Value.bytes _ _]) _ _ _); k_dflt (refine' user_c ?z9B ?z9F ?z9X ?z9N ?z9T ?z9hk ?z9hhb ?z9hh5 ?z9hh0 ?z9hh1 ?z9hd ?z9hu ?_; (case z9B => k_asm); (case z9F => k_asm); (case z9X => k_asm); (case z9N => k_asm); (case z9T => k_asm); (case z9hk => first | exact rfl | assumption); (case z9hhb => first | kba_ints | exact rfl); (case z9hh5 => first | omega | kba_size | l_fact); (case z9hh0 => first | omega | kba_size | l_fact); (case z9hh1 => first | omega | kba_size | l_fact); (case z9hd => ktr_room); (case z9hu => ktr_units); k_whole); intro r0Z r1Z hZ tkZ hR0Z FZ NZ; (try dsimp only); (try k_sweep); walk_say "BY user_c")
  k_with "m call ref" => (k_here; (with_reducible show wpAny _ _ (call (Value.ref 291) [Value.bytes _ _, Value.int _ _, Value.int _ _]) _ _ _); k_dflt (refine' octets_c ?z9B ?z9F ?z9X ?z9N ?z9T ?z9hk ?z9hhb ?z9hh5 ?z9hh0 ?z9hh1 ?z9hk0 ?z9hk1 ?z9hd ?z9hu ?_; (case z9B => k_asm); (case z9F => k_asm); (case z9X => k_asm); (case z9N => k_asm); (case z9T => k_asm); (case z9hk => first | exact rfl | assumption); (case z9hhb => first | kba_ints | exact rfl); (case z9hh5 => first | omega | kba_size | l_fact); (case z9hh0 => first | omega | kba_size | l_fact); (case z9hh1 => first | omega | kba_size | l_fact); (case z9hk0 => first | omega | kba_size | l_fact); (case z9hk1 => first | omega | kba_size | l_fact); (case z9hd => ktr_room); (case z9hu => ktr_units); k_whole); intro r0Z r1Z hZ tkZ hR0Z FZ NZ; (try dsimp only); (try k_sweep); walk_say "BY octets_c")
  k_with "m call ref" => (k_here; (with_reducible show wpAny _ _ (call (Value.ref 298) [Value.int _ _, Value.int _ _]) _ _ _); k_dflt (refine' option_c ?z9B ?z9F ?z9X ?z9N ?z9T ?z9hk ?z9hhq ?z9hhk2 ?z9hhbad ?_; (case z9B => k_asm); (case z9F => k_asm); (case z9X => k_asm); (case z9N => k_asm); (case z9T => k_asm); (case z9hk => first | exact rfl | assumption); (case z9hhq => with_reducible assumption); (case z9hhk2 => with_reducible assumption); (case z9hhbad => with_reducible assumption); k_whole); intro r0Z hZ tkZ  FZ NZ; (try dsimp only); (try k_sweep); walk_say "BY option_c")
  k_with "m call ref" => (k_here; (with_reducible show wpAny _ _ (call (Value.ref 234) [Value.ref _, Value.bytes _ _, Value.bytes _ _]) _ _ _); k_dflt (refine' icmp_bad2 ?z9B ?z9F ?z9X ?z9N ?z9T ?z9hk ?z9hm1 ?z9hm2 ?z9hm3 ?z9hm4 ?z9hhb ?z9hh8 ?z9hh9 ?z9hhz ?z9hd ?z9hu ?_; (case z9B => k_asm); (case z9F => k_asm); (case z9X => k_asm); (case z9N => k_asm); (case z9T => k_asm); (case z9hk => first | exact rfl | assumption); (case z9hm1 => k_mem); (case z9hm2 => k_mem); (case z9hm3 => k_mem); (case z9hm4 => k_mem); (case z9hhb => kba_ints); (case z9hh8 => first | omega | kba_size | l_fact); (case z9hh9 => first | omega | kba_size | l_fact); (case z9hhz => with_reducible assumption); (case z9hd => ktr_room); (case z9hu => ktr_units); k_whole); intro eZ tZ vsZ gZ hZ tkZ FGZ SZ RZ UZ; (try dsimp only at SZ RZ UZ ⊢); walk_say "BY icmp_bad2")
  k_with "m call ref" => (k_here; (with_reducible show wpAny _ _ (call (Value.ref 248) [Value.ref _, Value.bytes _ _, Value.bytes _ _]) _ _ _); k_dflt (refine' isep_bad2 ?z9B ?z9F ?z9X ?z9N ?z9T ?z9hk ?z9hm1 ?z9hm2 ?z9hm3 ?z9hm4 ?z9hhb ?z9hh8 ?z9hh9 ?z9hhz ?z9hd ?z9hu ?_; (case z9B => k_asm); (case z9F => k_asm); (case z9X => k_asm); (case z9N => k_asm); (case z9T => k_asm); (case z9hk => first | exact rfl | assumption); (case z9hm1 => k_mem); (case z9hm2 => k_mem); (case z9hm3 => k_mem); (case z9hm4 => k_mem); (case z9hhb => kba_ints); (case z9hh8 => first | omega | kba_size | l_fact); (case z9hh9 => first | omega | kba_size | l_fact); (case z9hhz => with_reducible assumption); (case z9hd => ktr_room); (case z9hu => ktr_units); k_whole); intro eZ tZ vsZ gZ hZ tkZ FGZ SZ RZ UZ; (try dsimp only at SZ RZ UZ ⊢); walk_say "BY isep_bad2")
  k_with "m call ref" => (k_here; (with_reducible show wpAny _ _ (call (Value.ref 234) [Value.ref _, Value.bytes _ _, Value.bytes _ _]) _ _ _); k_dflt (refine' icmp_c ?z9B ?z9F ?z9X ?z9N ?z9T ?z9hk ?z9hm1 ?z9hm2 ?z9hm3 ?z9hm4 ?z9hK1 ?z9hK2 ?z9hd ?z9hu ?_; (case z9B => k_asm); (case z9F => k_asm); (case z9X => k_asm); (case z9N => k_asm); (case z9T => k_asm); (case z9hk => first | exact rfl | assumption); (case z9hm1 => k_mem); (case z9hm2 => k_mem); (case z9hm3 => k_mem); (case z9hm4 => k_mem); (case z9hK1 => with_reducible assumption); (case z9hK2 => with_reducible assumption); (case z9hd => ktr_room); (case z9hu => ktr_units); k_whole); intro r0Z hZ tkZ  FZ NZ; (try dsimp only); (try k_sweep); walk_say "BY icmp_c")
  k_with "m call ref" => (k_here; (with_reducible show wpAny _ _ (call (Value.ref 305) [Value.ref _, Value.bytes _ _, Value.bytes _ _]) _ _ _); k_dflt (refine' corrupt_c ?z9B ?z9F ?z9X ?z9N ?z9T ?z9hk ?z9hm1 ?z9hm2 ?z9hm3 ?z9hm4 ?z9hhz ?z9hK ?_; (case z9B => k_asm); (case z9F => k_asm); (case z9X => k_asm); (case z9N => k_asm); (case z9T => k_asm); (case z9hk => first | exact rfl | assumption); (case z9hm1 => k_mem); (case z9hm2 => k_mem); (case z9hm3 => k_mem); (case z9hm4 => k_mem); (case z9hhz => with_reducible assumption); (case z9hK => with_reducible assumption); k_whole); intro r0Z hZ tkZ  FZ NZ; (try dsimp only); (try k_sweep); walk_say "BY corrupt_c")
  k_with "m eval Name" => (k_here; k_dflt (refine' nameX_L ?z9F ?z9v ?_ ?z9a ?z9b; (case z9F => k_asm); (case z9a => rfl); (case z9b => rfl); (case z9v => first | rfl | assumption); k_whole))
  k_with "m exec For Name Call cons nil" => (k_here; (with_reducible show wpAny _ _ (exec (Stmt.For (Expr.Name _ _) (Expr.Call _ _ _ _) _ [] _) _) _ _ _); with_unfolding_all (refine' For_G ?z9ga ?z9gb ?_; (case z9ga => exact rfl); (case z9gb => exact rfl); k_whole))
  k_with "m pyIter ref" => ((with_reducible show wpAny _ _ (pyIter (Value.ref _)) (fun it s₂ => LoopG _ _ _ _ _ _ _ _ it s₂) _ _); (with_reducible rename IsRange _ _ _ _ _ _ _ _ => rGZ); (with_reducible rename Fr _ _ _ _ => fGZ); (with_reducible rename News _ _ _ _ => nGZ); (with_unfolding_all first | refine iter_G (n := 7) (by rfl) rGZ (by first | decide | rfl) (by first | decide | rfl) fGZ nGZ ?_ | refine iter_G (n := 5) (by rfl) rGZ (by first | decide | rfl) (by first | decide | rfl) fGZ nGZ ?_); intro iZ l1Z s2Z hs2Z; (obtain ⟨h2Z, hs2Z⟩ := hs2Z); subst hs2Z)
  k_with "m k_mem" => first | exact List.Mem.head _ | (refine List.mem_cons_of_mem _ ?_; k_mem)
  k_with "m call builtin:list.append" => (k_here; (with_reducible show wpAny _ _ (call (Value.builtin _) [Value.ref _, _]) _ _ _); k_dflt (refine' append_K ?z9k1 ?z9k2 ?z9k3 ?_ ?z9z; (case z9k1 => k_asm); (case z9k2 => k_asm); (case z9k3 => k_upd); (case z9z => first | assumption | size_fits); k_whole); intro hZ FZ NZ; (try k_sweep))
  trivial
/-- what stands while the heads are drawn -/
def HP (L : Addr) (o : Obj) (lh : Addr) (fx : List (Addr × Obj)) (an xr xp xi : Addr) (i : Nat) (m : Str → Option Value) (news : List (Addr × Obj)) : Prop :=
  ∃ (rs : List Value) (hs : List (Array UInt8 × Int × Int)) (e : Nat) (rest : List (Addr × Obj)) (u : Array UInt8) (t9 : Tok), news = (lh, listOf rs.toArray e) :: (L + 1, o) :: rest ∧ OffAt lh rest ∧ OffAt (L + 1) rest ∧ hs.length = i ∧ HeadsIn rest rs hs ∧ (∀ h ∈ hs, HeadOk h) ∧ (∀ p ∈ fx, p ∈ rest) ∧
    Named m an xr xp xi ∧ m (Str.ofString "heads") = some (.ref lh) ∧ m (Str.ofString "user") = some (.bytes u t9) ∧ (KBw.bInts u).length ≤ 5
theorem head_turn {base h' : Heap} {L lh I D T : Addr} {o ot it : Obj} {fx rest : List (Addr × Obj)} {an xr xp xi : Addr} {i e e' tk : Nat} {m' : Str → Option Value} {s₁ : Shared} {Q : Flow → Shared → Prop} {rs : List Value} {hs : List (Array UInt8 × Int × Int)} {u : Array UInt8} {q k : Int} {t1 t2 t3 : Tok}
    (F : Fr base L h' m') (N : News base L h' ((D, tripleObj u t1 (0 - q) t2 (0 - k) t3) :: (T, ot) :: (I, it) :: (lh, listOf (rs.toArray.push (.ref D)) e') :: (L + 1, o) :: rest))
    (d1 : @Ne Nat D I) (d2 : @Ne Nat D lh) (d3 : @Ne Nat D (L + 1)) (o9 : ∀ p ∈ (lh, listOf rs.toArray e) :: (L + 1, o) :: rest, p.1 ≠ I) (p1 : OffAt lh rest) (p2 : OffAt (L + 1) rest) (p3 : hs.length = i) (p4 : HeadsIn rest rs hs) (p5 : ∀ h ∈ hs, HeadOk h) (p6 : ∀ p ∈ fx, p ∈ rest)
    (a1 : (KBw.bInts u).length ≤ 5) (a2 : 0 ≤ q ∧ q < 72057594037927936) (a3 : 0 ≤ k ∧ k ≤ 1) (nm : Named m' an xr xp xi) (q5 : m' (Str.ofString "heads") = some (.ref lh)) (q6 : m' (Str.ofString "user") = some (.bytes u t1)) :
    PostG L s₁ I it (fun g' m' news' => g' = base ∧ HP L o lh fx an xr xp xi (i + 1) m' news') Q .next { s₁ with heap := h', toks := tk } := by
  refine PostG.at (news' := (lh, listOf (rs ++ [Value.ref D]).toArray e') :: (L + 1, o) :: (D, tripleObj u t1 (0 - q) t2 (0 - k) t3) :: rest) F (fun p hp => ?_) (fun p hp => ?_) ⟨rfl, rs ++ [Value.ref D], hs ++ [(u, q, k)], e', (D, tripleObj u t1 (0 - q) t2 (0 - k) t3) :: rest, u, t1, rfl, fun p hp => ?_, fun p hp => ?_, ?_, ?_, fun h hh => ?_, fun p hp => .tail _ (p6 p hp), nm, q5, q6, a1⟩
  · rw [show (rs ++ [Value.ref D]).toArray = rs.toArray.push (.ref D) from by simp] at hp
    simp only [List.mem_cons] at hp
    refine N p ?_
    simp only [List.mem_cons]
    rcases hp with h | h | h | h | h
    · exact .inr (.inr (.inl h))
    · exact .inr (.inr (.inr (.inl h)))
    · exact .inr (.inr (.inr (.inr (.inl h))))
    · exact .inl h
    · exact .inr (.inr (.inr (.inr (.inr h))))
  · simp only [List.mem_cons] at hp
    rcases hp with rfl | rfl | rfl | h
    · exact o9 (lh, listOf rs.toArray e) (.head _)
    · exact o9 _ (.tail _ (.head _))
    · exact d1
    · exact o9 _ (.tail _ (.tail _ h))
  · rcases List.mem_cons.mp hp with rfl | h
    · exact d2
    · exact p1 p h
  · rcases List.mem_cons.mp hp with rfl | h
    · exact d3
    · exact p2 p h
  · rw [List.length_append, p3]; rfl
  · exact HeadsIn.snoc (h := (u, q, k)) ⟨D, t1, t2, t3, rfl, .head _⟩ (p4.sub fun p hp => .tail _ hp)
  · rcases List.mem_append.mp hh with h1 | h1
    · exact p5 h h1
    · rw [List.mem_singleton.mp h1]; exact ⟨a1, a2.1, Int.le_of_lt_add_one a2.2, a3.1, a3.2⟩
set_option maxHeartbeats 4000000 in
theorem seg2 {w : World} {mean : ExcName → Option Value} {mg mb : Str → Option Value} {fa : Addr} {cd : Value} {base : Heap} {L : Addr} {m : Str → Option Value} {s : Shared} {Q : Flow → Shared → Prop} {an xr dr xp dp xi di xb db lh : Addr} {nv : List Value} {nums : List Int} {e : Nat} {ti t1 : Tok} {fx : List (Addr × Obj)} {o : Obj} (K0 : Below callerA base [] base) (F : Fr base L s.heap m) (X : (Mine.hd.heap_39 w.params).In base) (T : Top Mine.view (looseW Mine.view []) mean mg mb base)
  (N : News base L s.heap ((lh, listOf #[] 0) :: (L + 1, o) :: fx)) (hl : @Ne Nat lh (L + 1)) (o1 : OffAt lh fx) (o2 : OffAt (L + 1) fx) (hF : Fixed w fx an nv e xr dr xp dp xi di ti xb db) (hN : Named m an xr xp xi) (hh : m (Str.ofString "heads") = some (.ref lh)) (hu : m (Str.ofString "user") = some (.bytes #[] t1)) (hi : IntsAre nv nums) (hk : NumsOk nums)
  (hret : ∀ (i : Nat) (m' : Str → Option Value) (h' : Heap) (tk' : Nat) (news : List (Addr × Obj)), i = 7 ∨ i = 5 → HP L o lh fx an xr xp xi i m' news → Fr base L h' m' → News base L h' news → Q .next { s with heap := h', toks := tk' }) :
  wpAny (model Challenge.rw_xw0260_01.row.prog w) (callerA.deeper (envOfC (Str.ofString "law") lawScope L fa cd)) (execs ((lawBody.drop 7).take 1) (envOfC (Str.ofString "law") lawScope L fa cd)) Q (fun _ _ => False) s := by
  revert X; k_fill; intro X
  rw [show (lawBody.drop 7).take 1 = [_] from rfl]
  rw [show lawScope = { kind := _, names := _, isGenerator := _, isCoroutine := _, more := _ } from rfl]
  obtain ⟨f1, f2, f3, f4, f5, f6, f7, f8, f9⟩ := hF
  obtain ⟨n1, n2, n3, n4⟩ := hN
  obtain ⟨k1, k2, k3⟩ := hk
  k_steps
  all_goals (refine RestG.inv (P := HP L o lh fx an xr xp xi) ?_ ?_ _ _ _ _ rfl ?_ ?_)
  · intro i m9 news9 t9 h9 tk9 hi9 hp o9 F9 N9
    obtain ⟨rs, hs, e9, rest, u9, t8, rfl, p1, p2, p3, p4, p5, p6, ⟨q1, q2, q3, q4⟩, q5, q6, q7⟩ := hp
    have g1 := p6 _ f1
    have ne1 : @Ne Nat lh _ := o9 _ (.head _)
    have ne2 : @Ne Nat (L + 1) _ := o9 _ (.tail _ (.head _))
    have z9 : rs.toArray.size ≤ sizeLine := by rw [sizeLine_eq, List.size_toArray, p4.length]; omega
    k_steps
    refine' head_turn (L := L) ?hF ?hN ?h1 ?h2 ?h3 o9 p1 p2 p3 p4 p5 p6 ?h4 ?h5 ?h6 ?h7 ?h8 ?h9
    case hF => assumption
    case hN => assumption
    case h1 => omega
    case h2 => omega
    case h3 => omega
    case h4 => assumption
    case h5 => exact menu_b (by decide) (by decide) (by decide) _
    case h6 => omega
    case h7 => exact ⟨q1, q2, q3, q4⟩
    case h8 => exact q5
    case h9 => rfl
  · intro m9 news9 h9 tk9 p F9 N9
    k_steps
    exact hret 7 m9 h9 tk9 news9 (by decide) p F9 N9
  · exact ⟨[], [], 0, fx, #[], t1, rfl, o1, o2, rfl, trivial, (fun h hh9 => by cases hh9), (fun p hp9 => hp9), ⟨n1, n2, n3, n4⟩, hh, hu, by decide⟩
  · intro p hp
    rename (∀ p, p ∈ _ → _) => l9
    exact Nat.ne_of_lt (l9 p hp)
  · intro i m9 news9 t9 h9 tk9 hi9 hp o9 F9 N9
    obtain ⟨rs, hs, e9, rest, u9, t8, rfl, p1, p2, p3, p4, p5, p6, ⟨q1, q2, q3, q4⟩, q5, q6, q7⟩ := hp
    have g1 := p6 _ f1
    have ne1 : @Ne Nat lh _ := o9 _ (.head _)
    have ne2 : @Ne Nat (L + 1) _ := o9 _ (.tail _ (.head _))
    have z9 : rs.toArray.size ≤ sizeLine := by rw [sizeLine_eq, List.size_toArray, p4.length]; omega
    k_steps
    refine' head_turn (L := L) ?hF ?hN ?h1 ?h2 ?h3 o9 p1 p2 p3 p4 p5 p6 ?h4 ?h5 ?h6 ?h7 ?h8 ?h9
    case hF => assumption
    case hN => assumption
    case h1 => omega
    case h2 => omega
    case h3 => omega
    case h4 => assumption
    case h5 => exact menu_b (by decide) (by decide) (by decide) _
    case h6 => omega
    case h7 => exact ⟨q1, q2, q3, q4⟩
    case h8 => exact q5
    case h9 => rfl
  · intro m9 news9 h9 tk9 p F9 N9
    k_steps
    exact hret 5 m9 h9 tk9 news9 (by decide) p F9 N9
  · exact ⟨[], [], 0, fx, #[], t1, rfl, o1, o2, rfl, trivial, (fun h hh9 => by cases hh9), (fun p hp9 => hp9), ⟨n1, n2, n3, n4⟩, hh, hu, by decide⟩
  · intro p hp
    rename (∀ p, p ∈ _ → _) => l9
    exact Nat.ne_of_lt (l9 p hp)

theorem pj0 {a r : Prop} (h : a ∧ r) : a := h.1
theorem pj1 {p0 a r : Prop} (h : p0 ∧ a ∧ r) : a := h.2.1
theorem pe1 {p0 a : Prop} (h : p0 ∧ a) : a := h.2
theorem pj2 {p0 p1 a r : Prop} (h : p0 ∧ p1 ∧ a ∧ r) : a := h.2.2.1
theorem pe2 {p0 p1 a : Prop} (h : p0 ∧ p1 ∧ a) : a := h.2.2
theorem pj3 {p0 p1 p2 a r : Prop} (h : p0 ∧ p1 ∧ p2 ∧ a ∧ r) : a := h.2.2.2.1
theorem pe3 {p0 p1 p2 a : Prop} (h : p0 ∧ p1 ∧ p2 ∧ a) : a := h.2.2.2
theorem pj4 {p0 p1 p2 p3 a r : Prop} (h : p0 ∧ p1 ∧ p2 ∧ p3 ∧ a ∧ r) : a := h.2.2.2.2.1
theorem pe4 {p0 p1 p2 p3 a : Prop} (h : p0 ∧ p1 ∧ p2 ∧ p3 ∧ a) : a := h.2.2.2.2
theorem pj5 {p0 p1 p2 p3 p4 a r : Prop} (h : p0 ∧ p1 ∧ p2 ∧ p3 ∧ p4 ∧ a ∧ r) : a := h.2.2.2.2.2.1
theorem pe5 {p0 p1 p2 p3 p4 a : Prop} (h : p0 ∧ p1 ∧ p2 ∧ p3 ∧ p4 ∧ a) : a := h.2.2.2.2.2
theorem pj6 {p0 p1 p2 p3 p4 p5 a r : Prop} (h : p0 ∧ p1 ∧ p2 ∧ p3 ∧ p4 ∧ p5 ∧ a ∧ r) : a := h.2.2.2.2.2.2.1
theorem pe6 {p0 p1 p2 p3 p4 p5 a : Prop} (h : p0 ∧ p1 ∧ p2 ∧ p3 ∧ p4 ∧ p5 ∧ a) : a := h.2.2.2.2.2.2
theorem pj7 {p0 p1 p2 p3 p4 p5 p6 a r : Prop} (h : p0 ∧ p1 ∧ p2 ∧ p3 ∧ p4 ∧ p5 ∧ p6 ∧ a ∧ r) : a := h.2.2.2.2.2.2.2.1
theorem pe7 {p0 p1 p2 p3 p4 p5 p6 a : Prop} (h : p0 ∧ p1 ∧ p2 ∧ p3 ∧ p4 ∧ p5 ∧ p6 ∧ a) : a := h.2.2.2.2.2.2.2
theorem pj8 {p0 p1 p2 p3 p4 p5 p6 p7 a r : Prop} (h : p0 ∧ p1 ∧ p2 ∧ p3 ∧ p4 ∧ p5 ∧ p6 ∧ p7 ∧ a ∧ r) : a := h.2.2.2.2.2.2.2.2.1
theorem pe8 {p0 p1 p2 p3 p4 p5 p6 p7 a : Prop} (h : p0 ∧ p1 ∧ p2 ∧ p3 ∧ p4 ∧ p5 ∧ p6 ∧ p7 ∧ a) : a := h.2.2.2.2.2.2.2.2
theorem pj9 {p0 p1 p2 p3 p4 p5 p6 p7 p8 a r : Prop} (h : p0 ∧ p1 ∧ p2 ∧ p3 ∧ p4 ∧ p5 ∧ p6 ∧ p7 ∧ p8 ∧ a ∧ r) : a := h.2.2.2.2.2.2.2.2.2.1
theorem pe9 {p0 p1 p2 p3 p4 p5 p6 p7 p8 a : Prop} (h : p0 ∧ p1 ∧ p2 ∧ p3 ∧ p4 ∧ p5 ∧ p6 ∧ p7 ∧ p8 ∧ a) : a := h.2.2.2.2.2.2.2.2.2
theorem pj10 {p0 p1 p2 p3 p4 p5 p6 p7 p8 p9 a r : Prop} (h : p0 ∧ p1 ∧ p2 ∧ p3 ∧ p4 ∧ p5 ∧ p6 ∧ p7 ∧ p8 ∧ p9 ∧ a ∧ r) : a := h.2.2.2.2.2.2.2.2.2.2.1
theorem pe10 {p0 p1 p2 p3 p4 p5 p6 p7 p8 p9 a : Prop} (h : p0 ∧ p1 ∧ p2 ∧ p3 ∧ p4 ∧ p5 ∧ p6 ∧ p7 ∧ p8 ∧ p9 ∧ a) : a := h.2.2.2.2.2.2.2.2.2.2
theorem pj11 {p0 p1 p2 p3 p4 p5 p6 p7 p8 p9 p10 a r : Prop} (h : p0 ∧ p1 ∧ p2 ∧ p3 ∧ p4 ∧ p5 ∧ p6 ∧ p7 ∧ p8 ∧ p9 ∧ p10 ∧ a ∧ r) : a := h.2.2.2.2.2.2.2.2.2.2.2.1
theorem pe11 {p0 p1 p2 p3 p4 p5 p6 p7 p8 p9 p10 a : Prop} (h : p0 ∧ p1 ∧ p2 ∧ p3 ∧ p4 ∧ p5 ∧ p6 ∧ p7 ∧ p8 ∧ p9 ∧ p10 ∧ a) : a := h.2.2.2.2.2.2.2.2.2.2.2
theorem pj12 {p0 p1 p2 p3 p4 p5 p6 p7 p8 p9 p10 p11 a r : Prop} (h : p0 ∧ p1 ∧ p2 ∧ p3 ∧ p4 ∧ p5 ∧ p6 ∧ p7 ∧ p8 ∧ p9 ∧ p10 ∧ p11 ∧ a ∧ r) : a := h.2.2.2.2.2.2.2.2.2.2.2.2.1
theorem pe12 {p0 p1 p2 p3 p4 p5 p6 p7 p8 p9 p10 p11 a : Prop} (h : p0 ∧ p1 ∧ p2 ∧ p3 ∧ p4 ∧ p5 ∧ p6 ∧ p7 ∧ p8 ∧ p9 ∧ p10 ∧ p11 ∧ a) : a := h.2.2.2.2.2.2.2.2.2.2.2.2
set_option maxHeartbeats 4000000 in
theorem seg1 {w : World} {mean : ExcName → Option Value} {mg mb : Str → Option Value} {fa : Addr} {cd : Value} {base : Heap} {L : Addr} {m : Str → Option Value} {s : Shared} {Q : Flow → Shared → Prop} {l : Addr} {vs : List Value} {ns : List Int} {o : Obj} (K0 : Below callerA base [] base) (F : Fr base L s.heap m) (X : (Mine.hd.heap_39 w.params).In base) (T : Top Mine.view (looseW Mine.view []) mean mg mb base)
  (N : News base L s.heap [(L + 1, o)]) (hc : o.data = .cell none) (hl : base.IsList l vs.toArray) (hi : IntsAre vs ns) (hn : ns.length ≤ 63) (hm : m (Str.ofString "script") = some (.ref l))
  (hret : ∀ (m' : Str → Option Value) (h' : Heap) (tk' : Nat) (an xr dr xp dp xi di xb db lh : Addr) (nv : List Value) (nums : List Int) (e : Nat) (ti t1 : Tok) (fx : List (Addr × Obj)),
    Fr base L h' m' → Named m' an xr xp xi → m' (Str.ofString "heads") = some (.ref lh) → m' (Str.ofString "user") = some (.bytes #[] t1) → IntsAre nv nums → NumsOk nums →
    News base L h' ((lh, listOf #[] 0) :: (L + 1, o) :: fx) → lh ≠ L + 1 → OffAt lh fx → OffAt (L + 1) fx → Fixed w fx an nv e xr dr xp dp xi di ti xb db → Q .next { s with heap := h', toks := tk' }) :
  wpAny (model Challenge.rw_xw0260_01.row.prog w) (callerA.deeper (envOfC (Str.ofString "law") lawScope L fa cd)) (execs ((lawBody.drop 0).take 7) (envOfC (Str.ofString "law") lawScope L fa cd)) Q (fun _ _ => False) s := by
  revert X; k_fill; intro X
  rw [show (lawBody.drop 0).take 7 = [_, _, _, _, _, _, _] from rfl]
  rw [show lawScope = { kind := _, names := _, isGenerator := _, isCoroutine := _, more := _ } from rfl]
  k_steps
  all_goals (
    rename News base L _ _ => NN
    refine' seg1_pack (w := w) NN ?g0 ?gc ⟨?g1, ?g2, ?g3, ?g4, ?g5, ?g6, ?g7, ?g8, ?g9⟩ ?gne (fun fx hN o1 o2 hF => hret _ _ _ _ _ _ _ _ _ _ _ _ _ _ _ _ _ _ fx (by assumption) ⟨rfl, rfl, rfl, rfl⟩ rfl rfl ?gi ?gok hN ?gl o1 o2 hF)
    case g0 => k_mem
    case gc => k_mem
    case g1 => k_mem
    case g2 => k_mem
    case g3 => k_mem
    case g4 => k_mem
    case g5 => k_mem
    case g6 => k_mem
    case g7 => k_mem
    case g8 => k_mem
    case g9 => k_mem
    case gne => refine ⟨⟨?_, ?_, ?_, ?_, ?_, ?_, ?_, ?_, ?_⟩, ?_, ?_, ?_, ?_, ?_, ?_, ?_, ?_, ?_⟩ <;> (first | (with_reducible (apply Nat.ne_of_gt; (first | assumption | (apply pj0; assumption) | (apply pj1; assumption) | (apply pj2; assumption) | (apply pj3; assumption) | (apply pj4; assumption) | (apply pj5; assumption) | (apply pj6; assumption) | (apply pj7; assumption) | (apply pj8; assumption) | (apply pj9; assumption) | (apply pj10; assumption) | (apply pj11; assumption) | (apply pj12; assumption) | (apply pe1; assumption) | (apply pe2; assumption) | (apply pe3; assumption) | (apply pe4; assumption) | (apply pe5; assumption) | (apply pe6; assumption) | (apply pe7; assumption) | (apply pe8; assumption) | (apply pe9; assumption) | (apply pe10; assumption) | (apply pe11; assumption) | (apply pe12; assumption)); done)) | (with_reducible (apply Nat.ne_of_lt; (first | assumption | (apply pj0; assumption) | (apply pj1; assumption) | (apply pj2; assumption) | (apply pj3; assumption) | (apply pj4; assumption) | (apply pj5; assumption) | (apply pj6; assumption) | (apply pj7; assumption) | (apply pj8; assumption) | (apply pj9; assumption) | (apply pj10; assumption) | (apply pj11; assumption) | (apply pj12; assumption) | (apply pe1; assumption) | (apply pe2; assumption) | (apply pe3; assumption) | (apply pe4; assumption) | (apply pe5; assumption) | (apply pe6; assumption) | (apply pe7; assumption) | (apply pe8; assumption) | (apply pe9; assumption) | (apply pe10; assumption) | (apply pe11; assumption) | (apply pe12; assumption)); done)) | k_ne)
    case gl => (first | (with_reducible (apply Nat.ne_of_gt; (first | assumption | (apply pj0; assumption) | (apply pj1; assumption) | (apply pj2; assumption) | (apply pj3; assumption) | (apply pj4; assumption) | (apply pj5; assumption) | (apply pj6; assumption) | (apply pj7; assumption) | (apply pj8; assumption) | (apply pj9; assumption) | (apply pj10; assumption) | (apply pj11; assumption) | (apply pj12; assumption) | (apply pe1; assumption) | (apply pe2; assumption) | (apply pe3; assumption) | (apply pe4; assumption) | (apply pe5; assumption) | (apply pe6; assumption) | (apply pe7; assumption) | (apply pe8; assumption) | (apply pe9; assumption) | (apply pe10; assumption) | (apply pe11; assumption) | (apply pe12; assumption)); done)) | (with_reducible (apply Nat.ne_of_lt; (first | assumption | (apply pj0; assumption) | (apply pj1; assumption) | (apply pj2; assumption) | (apply pj3; assumption) | (apply pj4; assumption) | (apply pj5; assumption) | (apply pj6; assumption) | (apply pj7; assumption) | (apply pj8; assumption) | (apply pj9; assumption) | (apply pj10; assumption) | (apply pj11; assumption) | (apply pj12; assumption) | (apply pe1; assumption) | (apply pe2; assumption) | (apply pe3; assumption) | (apply pe4; assumption) | (apply pe5; assumption) | (apply pe6; assumption) | (apply pe7; assumption) | (apply pe8; assumption) | (apply pe9; assumption) | (apply pe10; assumption) | (apply pe11; assumption) | (apply pe12; assumption)); done)) | k_ne)
    case gi => first | assumption | exact .cons _ _ .nil
    case gok => first | exact numsOk_one | (refine numsOk_map ?_ (by rw [List.length_take]; omega); first | exact .inl (by assumption) | exact .inr (by assumption)))

theorem allLt_off {d : Nat} : ∀ {l : List (Addr × Obj)}, AllLt d l → OffAt d l
  | [], _ => fun _ h => nomatch h
  | p :: r, h => fun q hq => by
    rcases List.mem_cons.mp hq with rfl | hq
    · exact Nat.ne_of_lt h.1
    · exact allLt_off h.2 q hq
set_option maxHeartbeats 4000000 in
theorem seg3 {w : World} {mean : ExcName → Option Value} {mg mb : Str → Option Value} {fa : Addr} {cd : Value} {base : Heap} {L : Addr} {m : Str → Option Value} {s : Shared} {Q : Flow → Shared → Prop} {an xr dr xp dp xi di xb db lh : Addr} {nv rs : List Value} {nums : List Int} {e e1 : Nat} {ti : Tok} {rest : List (Addr × Obj)} {o : Obj} (K0 : Below callerA base [] base) (F : Fr base L s.heap m) (X : (Mine.hd.heap_39 w.params).In base) (T : Top Mine.view (looseW Mine.view []) mean mg mb base)
  (N : News base L s.heap ((lh, listOf rs.toArray e1) :: (L + 1, o) :: rest)) (hc : o.data = .cell none) (hl : @Ne Nat lh (L + 1)) (o1 : OffAt lh rest) (o2 : OffAt (L + 1) rest) (hF : Fixed w rest an nv e xr dr xp dp xi di ti xb db) (hN : Named m an xr xp xi) (hh : m (Str.ofString "heads") = some (.ref lh)) (hi : IntsAre nv nums) (hk : NumsOk nums)
  (hret : ∀ (m' : Str → Option Value) (h' : Heap) (tk' : Nat) (lk : Addr) (o' : Obj) (v : Int) (t : Tok), Fr base L h' m' → News base L h' ((lk, listOf #[] 0) :: (lh, listOf rs.toArray e1) :: (L + 1, o') :: rest) → o'.data = .cell (some (.int v t)) → 0 ≤ v → v < 1100000 → @LT.lt Nat _ lh lk → @LT.lt Nat _ (L + 1) lk → OffAt lk rest → Named m' an xr xp xi → m' (Str.ofString "heads") = some (.ref lh) → m' (Str.ofString "keys") = some (.ref lk) → Q .next { s with heap := h', toks := tk' }) :
  wpAny (model Challenge.rw_xw0260_01.row.prog w) (callerA.deeper (envOfC (Str.ofString "law") lawScope L fa cd)) (execs ((lawBody.drop 8).take 4) (envOfC (Str.ofString "law") lawScope L fa cd)) Q (fun _ _ => False) s := by
  revert X; k_fill; intro X
  rw [show (lawBody.drop 8).take 4 = [_, _, _, _] from rfl]
  rw [show lawScope = { kind := _, names := _, isGenerator := _, isCoroutine := _, more := _ } from rfl]
  obtain ⟨f1, f2, f3, f4, f5, f6, f7, f8, f9⟩ := hF
  obtain ⟨n1, n2, n3, n4⟩ := hN
  obtain ⟨k1, k2, k3⟩ := hk
  k_steps
  rename (_ < _ ∧ _ < _ ∧ AllLt _ rest) => l9
  refine' hret _ _ _ _ _ _ _ ?hF ?hN ?hd ?h0 ?h1 l9.1 l9.2.1 (allLt_off l9.2.2) ?h2 ?h3 ?h4
  case hF => assumption
  case hN => assumption
  case hd => assumption
  case h0 => assumption
  case h1 => assumption
  case h2 => exact ⟨n1, n2, n3, n4⟩
  case h3 => exact hh
  case h4 => rfl

theorem lines_54 : True := by
  k_with "m call ref" => (k_here; (with_reducible show wpAny _ _ (call (Value.ref 117) [Value.bytes _ _, Value.int _ _, Value.int _ _]) _ _ _); k_dflt (refine' make_key ?z9B ?z9F ?z9X ?z9N ?z9T ?z9hk ?z9hh5 ?z9hh0 ?z9hh1 ?z9hk0 ?z9hk1 ?z9hd ?z9hu ?_; (case z9B => k_asm); (case z9F => k_asm); (case z9X => k_asm); (case z9N => k_asm); (case z9T => k_asm); (case z9hk => first | exact rfl | assumption); (case z9hh5 => first | with_reducible assumption | omega); (case z9hh0 => first | omega | kba_size | l_fact); (case z9hh1 => first | omega | kba_size | l_fact); (case z9hk0 => first | omega | kba_size | l_fact); (case z9hk1 => first | omega | kba_size | l_fact); (case z9hd => ktr_room); (case z9hu => ktr_units); k_whole); intro r0Z r1Z hZ tkZ hR0Z FZ NZ; (try dsimp only); (try k_sweep); walk_say "BY make_key")
  k_with "m call ref" => (k_here; (with_reducible show wpAny _ _ (call (Value.ref 291) [Value.bytes _ _, Value.int _ _, Value.int _ _]) _ _ _); k_dflt (refine' oct_key ?z9B ?z9F ?z9X ?z9N ?z9T ?z9hk ?z9hh5 ?z9hh0 ?z9hh1 ?z9hk0 ?z9hk1 ?z9hd ?z9hu ?_; (case z9B => k_asm); (case z9F => k_asm); (case z9X => k_asm); (case z9N => k_asm); (case z9T => k_asm); (case z9hk => first | exact rfl | assumption); (case z9hh5 => first | with_reducible assumption | omega); (case z9hh0 => first | omega | kba_size | l_fact); (case z9hh1 => first | omega | kba_size | l_fact); (case z9hk0 => first | omega | kba_size | l_fact); (case z9hk1 => first | omega | kba_size | l_fact); (case z9hd => ktr_room); (case z9hu => ktr_units); k_whole); intro r0Z r1Z hZ tkZ hR0Z FZ NZ; (try dsimp only); (try k_sweep); walk_say "BY oct_key")
  k_with "m call ref" => (k_here; (with_reducible show wpAny _ _ (call (Value.ref 131) [Value.bytes _ _]) _ _ _); k_dflt (refine' user_key ?z9B ?z9F ?z9X ?z9N ?z9T ?z9hk ?z9hK ?z9hd ?z9hu ?_; (case z9B => k_asm); (case z9F => k_asm); (case z9X => k_asm); (case z9N => k_asm); (case z9T => k_asm); (case z9hk => first | exact rfl | assumption); (case z9hK => with_reducible assumption); (case z9hd => ktr_room); (case z9hu => ktr_units); k_whole); intro r0Z hZ tkZ  FZ NZ; (try dsimp only); (try k_sweep); walk_say "BY user_key")
  k_with "m call ref" => (k_here; (with_reducible show wpAny _ _ (call (Value.ref 138) [Value.bytes _ _]) _ _ _); k_dflt (refine' tag_key ?z9B ?z9F ?z9X ?z9N ?z9T ?z9hk ?z9hK ?z9hd ?z9hu ?_; (case z9B => k_asm); (case z9F => k_asm); (case z9X => k_asm); (case z9N => k_asm); (case z9T => k_asm); (case z9hk => first | exact rfl | assumption); (case z9hK => with_reducible assumption); (case z9hd => ktr_room); (case z9hu => ktr_units); k_whole); intro r0Z hZ tkZ  FZ NZ; (try dsimp only); (try k_sweep); walk_say "BY tag_key")
  k_with "m call ref" => (k_here; (with_reducible show wpAny _ _ (call (Value.ref 124) [Value.bytes _ _]) _ _ _); k_dflt (refine' split_key ?z9B ?z9F ?z9X ?z9N ?z9T ?z9hk ?z9hK ?z9hd ?z9hu ?_; (case z9B => k_asm); (case z9F => k_asm); (case z9X => k_asm); (case z9N => k_asm); (case z9T => k_asm); (case z9hk => first | exact rfl | assumption); (case z9hK => with_reducible assumption); (case z9hd => ktr_room); (case z9hu => ktr_units); k_whole); intro r0Z r1Z r2Z r3Z hZ tkZ hltZ FZ NZ; (try simp only [AllLt] at hltZ); (try dsimp only); (try k_sweep); walk_say "BY split_key")
  k_with "m call ref" => (k_here; (with_reducible show wpAny _ _ (call (Value.ref 124) [Value.ref _]) _ _ _); k_dflt (refine' split_keyB ?z9B ?z9F ?z9X ?z9N ?z9T ?z9hk ?z9hhx ?z9hK ?z9hd ?z9hu ?_; (case z9B => k_asm); (case z9F => k_asm); (case z9X => k_asm); (case z9N => k_asm); (case z9T => k_asm); (case z9hk => first | exact rfl | assumption); (case z9hhx => k_mem); (case z9hK => with_reducible assumption); (case z9hd => ktr_room); (case z9hu => ktr_units); k_whole); intro r0Z r1Z r2Z r3Z hZ tkZ hltZ FZ NZ; (try simp only [AllLt] at hltZ); (try dsimp only); (try k_sweep); walk_say "BY split_keyB")
  k_with "m call ref" => (k_here; (with_reducible show wpAny _ _ (call (Value.ref 131) [Value.ref _]) _ _ _); k_dflt (refine' user_keyB ?z9B ?z9F ?z9X ?z9N ?z9T ?z9hk ?z9hhx ?z9hK ?z9hd ?z9hu ?_; (case z9B => k_asm); (case z9F => k_asm); (case z9X => k_asm); (case z9N => k_asm); (case z9T => k_asm); (case z9hk => first | exact rfl | assumption); (case z9hhx => k_mem); (case z9hK => with_reducible assumption); (case z9hd => ktr_room); (case z9hu => ktr_units); k_whole); intro r0Z hZ tkZ  FZ NZ; (try dsimp only); (try k_sweep); walk_say "BY user_keyB")
  k_with "m call ref" => (k_here; (with_reducible show wpAny _ _ (call (Value.ref 138) [Value.ref _]) _ _ _); k_dflt (refine' tag_keyB ?z9B ?z9F ?z9X ?z9N ?z9T ?z9hk ?z9hhx ?z9hK ?z9hd ?z9hu ?_; (case z9B => k_asm); (case z9F => k_asm); (case z9X => k_asm); (case z9N => k_asm); (case z9T => k_asm); (case z9hk => first | exact rfl | assumption); (case z9hhx => k_mem); (case z9hK => with_reducible assumption); (case z9hd => ktr_room); (case z9hu => ktr_units); k_whole); intro r0Z hZ tkZ  FZ NZ; (try dsimp only); (try k_sweep); walk_say "BY tag_keyB")
  k_with "m call ref" => (k_here; (with_reducible show wpAny _ _ (call (Value.ref 117) [Value.ref _, Value.int _ _, Value.int _ _]) _ _ _); k_dflt (refine' make_keyB ?z9B ?z9F ?z9X ?z9N ?z9T ?z9hk ?z9hhx ?z9hh5 ?z9hh0 ?z9hh1 ?z9hk0 ?z9hk1 ?z9hd ?z9hu ?_; (case z9B => k_asm); (case z9F => k_asm); (case z9X => k_asm); (case z9N => k_asm); (case z9T => k_asm); (case z9hk => first | exact rfl | assumption); (case z9hhx => k_mem); (case z9hh5 => first | with_reducible assumption | omega); (case z9hh0 => first | omega | kba_size | l_fact); (case z9hh1 => first | omega | kba_size | l_fact); (case z9hk0 => first | omega | kba_size | l_fact); (case z9hk1 => first | omega | kba_size | l_fact); (case z9hd => ktr_room); (case z9hu => ktr_units); k_whole); intro r0Z r1Z hZ tkZ hR0Z FZ NZ; (try dsimp only); (try k_sweep); walk_say "BY make_keyB")
  k_with "m exec For Tuple Name cons nil" => (k_here; (rename Fr _ _ _ _ => lFZ); (with_unfolding_all refine' For_turns lFZ ?_; k_whole))
  k_with "m pyIter ref" => (k_here; (with_reducible show wpAny _ _ (pyIter (Value.ref _)) (fun it s₂ => TurnsAt _ _ _ _ _ _ _ _ _ it s₂) _ _); (with_unfolding_all refine' iter_listTurns ?z9ia ?z9iF ?z9iN ?z9im ?z9ic ?z9id ?_; (case z9ia => exact rfl); (case z9iF => k_asm); (case z9iN => k_asm); (case z9im => k_mem); (case z9ic => exact rfl); (case z9id => exact rfl)); intro iZ l1Z; (try k_lt l1Z))
  k_with "m compareOp NotEq ref ref" => (k_here; (with_reducible show wpAny _ _ (compareOp CmpOp.NotEq (Value.ref _) (Value.ref _)) _ _ _); k_dflt (refine' ne_tup ?z9N ?z9x ?z9y ?z9q ?z9k ?z9u ?_; (case z9N => k_asm); (case z9x => k_mem); (case z9y => k_mem); (case z9q => omega); (case z9k => omega); (case z9u => first | ktr_units | k_units); k_whole))
  k_with "m subscriptTail Name Name ref int" => (k_here; (with_reducible show wpAny _ _ (subscriptTail _ _ (Value.ref _) (Value.int _ _)) _ _ _); k_dflt (first
    | (refine' item_at ?z9N ?z9m ?z9x ?z9v ?z9f ?_ ?z9hs; (case z9N => k_asm); (case z9m => k_mem); (case z9x => first | exact (Int.zero_add _) | exact (show (0 : Int) = ((0 : Nat) : Int) from rfl) | (with_reducible exact rfl) | with_reducible assumption); (case z9v => with_reducible assumption); (case z9f => omega); (case z9hs => with_unfolding_all rfl); k_whole)
    | (refine' item_trip ?z9N ?z9m ?z9a ?z9b ?z9x ?z9v ?_ ?z9hs; (case z9N => k_asm); (case z9m => k_mem); (case z9a => decide); (case z9b => decide); (case z9x => exact rfl); (case z9v => exact rfl); (case z9hs => with_unfolding_all rfl); k_whole)))
  k_with "m subscriptTail Subscript Name Name Constant ref int" => (k_here; (with_reducible show wpAny _ _ (subscriptTail _ _ (Value.ref _) (Value.int _ _)) _ _ _); k_dflt (first
    | (refine' item_at ?z9N ?z9m ?z9x ?z9v ?z9f ?_ ?z9hs; (case z9N => k_asm); (case z9m => k_mem); (case z9x => first | exact (Int.zero_add _) | exact (show (0 : Int) = ((0 : Nat) : Int) from rfl) | (with_reducible exact rfl) | with_reducible assumption); (case z9v => with_reducible assumption); (case z9f => omega); (case z9hs => with_unfolding_all rfl); k_whole)
    | (refine' item_trip ?z9N ?z9m ?z9a ?z9b ?z9x ?z9v ?_ ?z9hs; (case z9N => k_asm); (case z9m => k_mem); (case z9a => decide); (case z9b => decide); (case z9x => exact rfl); (case z9v => exact rfl); (case z9hs => with_unfolding_all rfl); k_whole)))
  k_with "m subscriptTail Subscript Constant ref int" => (k_here; (with_reducible show wpAny _ _ (subscriptTail _ _ (Value.ref _) (Value.int _ _)) _ _ _); k_dflt (first
    | (refine' item_at ?z9N ?z9m ?z9x ?z9v ?z9f ?_ ?z9hs; (case z9N => k_asm); (case z9m => k_mem); (case z9x => first | exact (Int.zero_add _) | exact (show (0 : Int) = ((0 : Nat) : Int) from rfl) | (with_reducible exact rfl) | with_reducible assumption); (case z9v => with_reducible assumption); (case z9f => omega); (case z9hs => with_unfolding_all rfl); k_whole)
    | (refine' item_trip ?z9N ?z9m ?z9a ?z9b ?z9x ?z9v ?_ ?z9hs; (case z9N => k_asm); (case z9m => k_mem); (case z9a => decide); (case z9b => decide); (case z9x => exact rfl); (case z9v => exact rfl); (case z9hs => with_unfolding_all rfl); k_whole)))
  k_with "m subscriptTail Name Constant ref int" => (k_here; (with_reducible show wpAny _ _ (subscriptTail _ _ (Value.ref _) (Value.int _ _)) _ _ _); k_dflt (first
    | (refine' item_at ?z9N ?z9m ?z9x ?z9v ?z9f ?_ ?z9hs; (case z9N => k_asm); (case z9m => k_mem); (case z9x => first | exact (Int.zero_add _) | exact (show (0 : Int) = ((0 : Nat) : Int) from rfl) | (with_reducible exact rfl) | with_reducible assumption); (case z9v => with_reducible assumption); (case z9f => omega); (case z9hs => with_unfolding_all rfl); k_whole)
    | (refine' item_trip ?z9N ?z9m ?z9a ?z9b ?z9x ?z9v ?_ ?z9hs; (case z9N => k_asm); (case z9m => k_mem); (case z9a => decide); (case z9b => decide); (case z9x => exact rfl); (case z9v => exact rfl); (case z9hs => with_unfolding_all rfl); k_whole)))
  k_with "m subscriptTail" => (k_here; (with_reducible show wpAny _ _ (subscriptTail _ _ (Value.ref _) (Value.int _ _)) _ _ _); k_dflt (first
    | (refine' item_at ?z9N ?z9m ?z9x ?z9v ?z9f ?_ ?z9hs; (case z9N => k_asm); (case z9m => k_mem); (case z9x => first | exact (Int.zero_add _) | exact (show (0 : Int) = ((0 : Nat) : Int) from rfl) | (with_reducible exact rfl) | with_reducible assumption); (case z9v => with_reducible assumption); (case z9f => omega); (case z9hs => with_unfolding_all rfl); k_whole)
    | (refine' item_trip ?z9N ?z9m ?z9a ?z9b ?z9x ?z9v ?_ ?z9hs; (case z9N => k_asm); (case z9m => k_mem); (case z9a => decide); (case z9b => decide); (case z9x => exact rfl); (case z9v => exact rfl); (case z9hs => with_unfolding_all rfl); k_whole)))
  trivial
def KP (lk lh L : Addr) (rs : List Value) (e1 : Nat) (o : Obj) (rest : List (Addr × Obj)) (hs : List (Array UInt8 × Int × Int)) (an xr xp xi : Addr) (i : Nat) (m : Str → Option Value) (news : List (Addr × Obj)) : Prop :=
  ∃ (kvs : List Value) (e : Nat), news = (lk, listOf kvs.toArray e) :: (lh, listOf rs.toArray e1) :: (L + 1, o) :: rest ∧ KeysAre kvs (hs.take i) ∧ Named m an xr xp xi ∧ m (Str.ofString "heads") = some (.ref lh) ∧ m (Str.ofString "keys") = some (.ref lk)
theorem key_turn {base h' : Heap} {L lk lh I D T : Addr} {o ob t1 t2 : Obj} {rest : List (Addr × Obj)} {an xr xp xi : Addr} {i e1 e' tk : Nat} {m' : Str → Option Value} {s₁ : Shared} {rs kvs : List Value} {hs : List (Array UInt8 × Int × Int)} {b ua : Array UInt8} {q k : Int} {tb : Tok} {v : Value}
    (F : Fr base L h' m') (N : News base L h' ((D, t1) :: (T, t2) :: (I, ob) :: (lk, listOf (kvs.toArray.push v) e') :: (lh, listOf rs.toArray e1) :: (L + 1, o) :: rest))
    (l1 : @LT.lt Nat _ lk I ∧ @LT.lt Nat _ lh I ∧ @LT.lt Nat _ (L + 1) I ∧ AllLt I rest) (p1 : KeysAre kvs (hs.take i)) (hg : hs[i]? = some (ua, q, k)) (hv : v = .bytes b tb) (K : KeyOf b ua (0 - (0 - q)) (0 - (0 - k))) (nm : Named m' an xr xp xi) (q5 : m' (Str.ofString "heads") = some (.ref lh)) (q6 : m' (Str.ofString "keys") = some (.ref lk)) :
    UnrEndW base L s₁ [(I, ob)] (fun m' n' => (lh, listOf rs.toArray e1) ∈ n' ∧ KP lk lh L rs e1 o rest hs an xr xp xi (i + 1) m' n') { s₁ with heap := h', toks := tk } := by
  refine ⟨h', tk, m', (lk, listOf (kvs ++ [v]).toArray e') :: (lh, listOf rs.toArray e1) :: (L + 1, o) :: rest, rfl, F, fun p hp => ?_, fun p hp q hq => ?_, .tail _ (.head _), kvs ++ [v], e', rfl, p1.step hg ⟨b, tb, hv, key_back K⟩, nm, q5, q6⟩
  · rw [show (kvs ++ [v]).toArray = kvs.toArray.push v from by simp] at hp
    exact N p (.tail _ (.tail _ hp))
  · rw [List.mem_singleton] at hq
    subst hq
    simp only [List.mem_cons] at hp
    rcases hp with rfl | rfl | rfl | h
    · exact Nat.ne_of_lt l1.1
    · exact Nat.ne_of_lt l1.2.1
    · exact Nat.ne_of_lt l1.2.2.1
    · exact allLt_off l1.2.2.2 _ h
set_option maxHeartbeats 4000000 in
theorem seg4 {w : World} {mean : ExcName → Option Value} {mg mb : Str → Option Value} {fa : Addr} {cd : Value} {base : Heap} {L : Addr} {m : Str → Option Value} {s : Shared} {Q : Flow → Shared → Prop} {an xr dr xp dp xi di xb db lh lk : Addr} {nv rs : List Value} {hs : List (Array UInt8 × Int × Int)} {e e1 : Nat} {ti : Tok} {rest : List (Addr × Obj)} {o : Obj} (K0 : Below callerA base [] base) (F : Fr base L s.heap m) (X : (Mine.hd.heap_39 w.params).In base) (T : Top Mine.view (looseW Mine.view []) mean mg mb base)
  (N : News base L s.heap ((lk, listOf #[] 0) :: (lh, listOf rs.toArray e1) :: (L + 1, o) :: rest)) (hl : @Ne Nat lh (L + 1)) (ll : @LT.lt Nat _ lh lk) (lL : @LT.lt Nat _ (L + 1) lk) (o1 : OffAt lh rest) (o2 : OffAt (L + 1) rest) (o3 : OffAt lk rest) (hF : Fixed w rest an nv e xr dr xp dp xi di ti xb db) (hN : Named m an xr xp xi) (hh : m (Str.ofString "heads") = some (.ref lh)) (hkk : m (Str.ofString "keys") = some (.ref lk)) (hH : HeadsIn rest rs hs) (hO : ∀ h ∈ hs, HeadOk h) (hn : hs.length ≤ 7)
  (hret : ∀ (m' : Str → Option Value) (h' : Heap) (tk' : Nat) (kvs : List Value) (e2 : Nat), Fr base L h' m' → News base L h' ((lk, listOf kvs.toArray e2) :: (lh, listOf rs.toArray e1) :: (L + 1, o) :: rest) → KeysAre kvs hs → Named m' an xr xp xi → m' (Str.ofString "heads") = some (.ref lh) → m' (Str.ofString "keys") = some (.ref lk) → Q .next { s with heap := h', toks := tk' }) :
  wpAny (model Challenge.rw_xw0260_01.row.prog w) (callerA.deeper (envOfC (Str.ofString "law") lawScope L fa cd)) (execs ((lawBody.drop 12).take 1) (envOfC (Str.ofString "law") lawScope L fa cd)) Q (fun _ _ => False) s := by
  revert X; k_fill; intro X
  rw [show (lawBody.drop 12).take 1 = [_] from rfl]
  rw [show lawScope = { kind := _, names := _, isGenerator := _, isCoroutine := _, more := _ } from rfl]
  obtain ⟨f1, f2, f3, f4, f5, f6, f7, f8, f9⟩ := hF
  obtain ⟨n1, n2, n3, n4⟩ := hN
  k_steps
  refine items_inv (P := KP lk lh L rs e1 o rest hs an xr xp xi) ?_ ?_ _ 0 _ _ (Nat.zero_le _) rfl ?_
  · intro i v9 m9 news9 h9 tk9 ob9 hv9 hp F9 hc9 N9
    obtain ⟨kvs, e9, rfl, p1, ⟨q1, q2, q3, q4⟩, q5, q6⟩ := hp
    obtain ⟨⟨b0, s0, k0⟩, hg9, r9, t91, t92, t93, rfl, hm9⟩ := hH.get hv9
    obtain ⟨a1, a2, a3, a4, a5⟩ := hO _ (List.mem_of_getElem? hg9)
    dsimp only at hm9 a1 a2 a3 a4 a5
    have z9 : kvs.toArray.size ≤ sizeLine := by
      have := p1.length
      rw [List.length_take] at this
      rw [sizeLine_eq, List.size_toArray]; omega
    k_steps
    all_goals (first
      | (exfalso; omega)
      | (exfalso; (rename _ = true => hb9); first | exact bytes_ne hb9 | ((refine' key_ne ?ka9 ?kb9 hb9); (case ka9 => assumption); (case kb9 => assumption)))
      | skip)
    refine' key_turn (L := L) ?hF ?hN ?hl p1 hg9 rfl ?hK ?h7 ?h8 ?h9
    case hF => assumption
    case hN => assumption
    case hl => assumption
    case hK => assumption
    case h7 => exact ⟨q1, q2, q3, q4⟩
    case h8 => exact q5
    case h9 => exact q6
  · intro m9 news9 h9 tk9 p F9 N9
    obtain ⟨kvs, e9, rfl, p1, p2, p3, p4⟩ := p
    rw [show rs.length = hs.length from hH.length, List.take_length] at p1
    k_steps
    exact hret m9 h9 tk9 kvs e9 F9 N9 p1 p2 p3 p4
  · exact ⟨[], 0, rfl, trivial, ⟨n1, n2, n3, n4⟩, hh, hkk⟩

theorem lines_55 : True := by
  k_with "m call builtin:len" => (k_here; (with_reducible show wpAny _ _ (call (Value.builtin _) [Value.ref _]) _ _ _); k_dflt (refine' len_at ?z9N ?z9m ?z9f ?_; (case z9N => k_asm); (case z9m => k_mem); (case z9f => omega); k_whole); intro _ _)
  k_with "m pyIter ref" => ((with_reducible show wpAny _ _ (pyIter (Value.ref _)) (fun it s₂ => LoopG _ _ _ _ _ _ _ _ it s₂) _ _); (with_reducible rename IsRange _ _ _ _ _ _ _ _ => rGZ); (with_reducible rename Fr _ _ _ _ => fGZ); (with_reducible rename News _ _ _ _ => nGZ); (with_unfolding_all refine' iter_G ?z9ga rGZ (small_of ?z9ge ?z9gh) (rsize_of ?z9gf) fGZ nGZ ?_; (case z9ga => exact rfl); (case z9ge => exact rfl); (case z9gh => omega); (case z9gf => exact rfl)); intro iZ l1Z s2Z hs2Z; (obtain ⟨h2Z, hs2Z⟩ := hs2Z); subst hs2Z)
  k_with "m exec For Name Tuple cons nil" => (k_here; (rename Fr _ _ _ _ => lFZ); (with_unfolding_all refine' For_turns lFZ ?_; k_whole))
  k_with "m pyIter ref" => (k_here; (with_reducible show wpAny _ _ (pyIter (Value.ref _)) (fun it s₂ => TurnsAt _ _ _ _ _ _ _ _ _ it s₂) _ _); (with_unfolding_all (refine' iter_listTurns ?z9ia ?z9iF ?z9iN ?z9im ?z9ic ?z9id ?_; (case z9ia => exact rfl); (case z9iF => k_asm); (case z9iN => k_asm); (case z9im => k_mem); (case z9ic => exact rfl); (case z9id => exact rfl))); intro iZ l1Z)
  trivial
set_option maxHeartbeats 4000000 in
theorem seg5 {w : World} {mean : ExcName → Option Value} {mg mb : Str → Option Value} {fa : Addr} {cd : Value} {base : Heap} {L : Addr} {m : Str → Option Value} {s : Shared} {Q : Flow → Shared → Prop} {an xr dr xp dp xi di xb db lh lk : Addr} {nv rs kvs : List Value} {hs : List (Array UInt8 × Int × Int)} {e e1 e2 : Nat} {ti : Tok} {rest : List (Addr × Obj)} {o : Obj} (K0 : Below callerA base [] base) (F : Fr base L s.heap m) (X : (Mine.hd.heap_39 w.params).In base) (T : Top Mine.view (looseW Mine.view []) mean mg mb base)
  (N : News base L s.heap ((lk, listOf kvs.toArray e2) :: (lh, listOf rs.toArray e1) :: (L + 1, o) :: rest)) (hl : @Ne Nat lh (L + 1)) (ll : @LT.lt Nat _ lh lk) (lL : @LT.lt Nat _ (L + 1) lk) (o1 : OffAt lh rest) (o2 : OffAt (L + 1) rest) (o3 : OffAt lk rest) (hF : Fixed w rest an nv e xr dr xp dp xi di ti xb db) (hN : Named m an xr xp xi) (hh : m (Str.ofString "heads") = some (.ref lh)) (hkk : m (Str.ofString "keys") = some (.ref lk)) (hH : HeadsIn rest rs hs) (hK : KeysAre kvs hs) (hn : hs.length ≤ 7)
  (hret : ∀ (m' : Str → Option Value) (h' : Heap) (tk' : Nat), Fr base L h' m' → News base L h' ((lk, listOf kvs.toArray e2) :: (lh, listOf rs.toArray e1) :: (L + 1, o) :: rest) → Named m' an xr xp xi → m' (Str.ofString "heads") = some (.ref lh) → m' (Str.ofString "keys") = some (.ref lk) → Q .next { s with heap := h', toks := tk' }) :
  wpAny (model Challenge.rw_xw0260_01.row.prog w) (callerA.deeper (envOfC (Str.ofString "law") lawScope L fa cd)) (execs ((lawBody.drop 13).take 1) (envOfC (Str.ofString "law") lawScope L fa cd)) Q (fun _ _ => False) s := by
  revert X; k_fill; intro X
  rw [show (lawBody.drop 13).take 1 = [_] from rfl]
  rw [show lawScope = { kind := _, names := _, isGenerator := _, isCoroutine := _, more := _ } from rfl]
  obtain ⟨f1, f2, f3, f4, f5, f6, f7, f8, f9⟩ := hF
  obtain ⟨n1, n2, n3, n4⟩ := hN
  have hkl : kvs.length ≤ 7 := by rw [hK.length]; exact hn
  k_steps
  refine' loop_same (R := fun m => Named m an xr xp xi ∧ m (Str.ofString "heads") = some (.ref lh) ∧ m (Str.ofString "keys") = some (.ref lk)) ?turn0 ?done0 ?init0 ?off0
  case init0 => exact ⟨⟨n1, n2, n3, n4⟩, hh, hkk⟩
  case off0 => assumption
  case done0 =>
    intro m9 h9 tk9 p F9 N9
    obtain ⟨p2, p3, p4⟩ := p
    k_steps
    exact hret m9 h9 tk9 F9 N9 p2 p3 p4
  intro i m9 t9 h9 tk9 I9 hi9 hp o9 F9 N9
  obtain ⟨⟨q1, q2, q3, q4⟩, q5, q6⟩ := hp
  obtain ⟨ua, sa, ka, ba, ta, ra, ta1, ta2, ta3, ia1, Ka, ia2, ia3⟩ := row_at hK hH i hi9
  k_steps
  refine' loop_same (R := fun m => (Named m an xr xp xi ∧ m (Str.ofString "heads") = some (.ref lh) ∧ m (Str.ofString "keys") = some (.ref lk)) ∧ m (Str.ofString "i") = some (.int (0 + (i : Int)) t9)) ?turn1 ?done1 ?init1 ?off1
  case init1 => exact ⟨⟨⟨q1, q2, q3, q4⟩, q5, q6⟩, rfl⟩
  case off1 => assumption
  case done1 =>
    intro m8 h8 tk8 p F8 N8
    obtain ⟨p2, p3⟩ := p
    k_steps
    exact post_same F8 N8 (fun p hp => hp) o9 p2
  intro j m8 t8 h8 tk8 I8 hj8 hp8 o8 F8 N8
  obtain ⟨⟨⟨y1, y2, y3, y4⟩, y5, y6⟩, y7⟩ := hp8
  obtain ⟨uc, sc, kc, bc, tc, rc, tc1, tc2, tc3, ic1, Kc, ic2, ic3⟩ := row_at hK hH j hj8
  k_steps
  all_goals (first
    | (exfalso; (rename (_ ≠ _) => hb9); exact hb9 rfl)
    | (exfalso; (rename _ = true => hb9); exact bytes_ne hb9)
    | (exfalso; omega)
    | skip)
  (with_unfolding_all refine' iter_tupTurns (vs := [_, _]) ?ia ?iF ?iN ?im ?ic ?id ?iq)
  case ia => exact rfl
  case iF => assumption
  case iN => assumption
  case im => k_mem
  case ic => exact rfl
  case id => exact rfl
  intro I7 l7
  refine' items_same (R := fun m => ((Named m an xr xp xi ∧ m (Str.ofString "heads") = some (.ref lh) ∧ m (Str.ofString "keys") = some (.ref lk)) ∧ m (Str.ofString "i") = some (.int (0 + (i : Int)) t9)) ∧ m (Str.ofString "j") = some (.int (0 + (j : Int)) t8)) ?turn2 ?done2 ?init2 ?off2
  case init2 => exact ⟨⟨⟨⟨y1, y2, y3, y4⟩, y5, y6⟩, y7⟩, rfl⟩
  case off2 => exact l7
  case done2 =>
    intro m7 h7 tk7 p F7 N7
    obtain ⟨⟨⟨⟨z1, z2, z3, z4⟩, z5, z6⟩, z7⟩, z8⟩ := p
    k_steps
    all_goals (first
      | (exfalso; (rename (_ ≠ _) => hb9); exact hb9 rfl)
      | (exfalso; (rename _ = true => hb9); exact bytes_ne hb9)
      | (exfalso; omega)
      | skip)
    refine' post_same ?hF ?hN ?hs o8 ?hr
    case hF => assumption
    case hN => assumption
    case hs => (intro p9 h9; first | exact h9 | exact .tail _ h9 | exact .tail _ (.tail _ h9) | exact .tail _ (.tail _ (.tail _ h9)))
    case hr => exact ⟨⟨⟨z1, z2, z3, z4⟩, z5, z6⟩, z7⟩
  intro g v m7 h7 tk7 ob7 I7 hv7 hp7 o7 F7 hc7 N7
  obtain ⟨⟨⟨⟨z1, z2, z3, z4⟩, z5, z6⟩, z7⟩, z8⟩ := hp7
  have hv : v = .ref xr ∨ v = .ref xp := by
    match g, hv7 with
    | 0, e => cases e; exact .inl rfl
    | 1, e => cases e; exact .inr rfl
    | (k + 2), e => exact absurd e (by simp)
  rcases hv with rfl | rfl
  · k_steps
    all_goals (first
      | (exfalso; (rename (_ ≠ _) => hb9); exact hb9 rfl)
      | (exfalso; (rename _ = true => hb9); exact bytes_ne hb9)
      | (exfalso; omega)
      | skip)
    refine' unr_same ?hF ?hN ?hs o7 ?ha ?hr
    case hF => assumption
    case hN => assumption
    case hs => (intro p9 h9; first | exact h9 | exact .tail _ h9 | exact .tail _ (.tail _ h9) | exact .tail _ (.tail _ (.tail _ h9)))
    case ha => exact .head _
    case hr => exact ⟨⟨⟨⟨z1, z2, z3, z4⟩, z5, z6⟩, z7⟩, z8⟩
  · k_steps
    all_goals (first
      | (exfalso; (rename (_ ≠ _) => hb9); exact hb9 rfl)
      | (exfalso; (rename _ = true => hb9); exact bytes_ne hb9)
      | (exfalso; omega)
      | skip)
    refine' unr_same ?hF ?hN ?hs o7 ?ha ?hr
    case hF => assumption
    case hN => assumption
    case hs => (intro p9 h9; first | exact h9 | exact .tail _ h9 | exact .tail _ (.tail _ h9) | exact .tail _ (.tail _ (.tail _ h9)))
    case ha => exact .head _
    case hr => exact ⟨⟨⟨⟨z1, z2, z3, z4⟩, z5, z6⟩, z7⟩, z8⟩

set_option maxHeartbeats 4000000 in
theorem seg6 {w : World} {mean : ExcName → Option Value} {mg mb : Str → Option Value} {fa : Addr} {cd : Value} {base : Heap} {L : Addr} {m : Str → Option Value} {s : Shared} {Q : Flow → Shared → Prop} {an xr dr xp dp xi di xb db lh lk : Addr} {nv rs kvs : List Value} {hs : List (Array UInt8 × Int × Int)} {e e1 e2 : Nat} {ti : Tok} {rest : List (Addr × Obj)} {o : Obj} {v : Int} {tv : Tok} (K0 : Below callerA base [] base) (F : Fr base L s.heap m) (X : (Mine.hd.heap_39 w.params).In base) (T : Top Mine.view (looseW Mine.view []) mean mg mb base)
  (N : News base L s.heap ((lk, listOf kvs.toArray e2) :: (lh, listOf rs.toArray e1) :: (L + 1, o) :: rest)) (hl : @Ne Nat lh (L + 1)) (ll : @LT.lt Nat _ lh lk) (lL : @LT.lt Nat _ (L + 1) lk) (o1 : OffAt lh rest) (o2 : OffAt (L + 1) rest) (o3 : OffAt lk rest) (hF : Fixed w rest an nv e xr dr xp dp xi di ti xb db) (hN : Named m an xr xp xi) (hh : m (Str.ofString "heads") = some (.ref lh)) (hkk : m (Str.ofString "keys") = some (.ref lk)) (hH : HeadsIn rest rs hs) (hK : KeysAre kvs hs) (hn : hs.length ≤ 7) (hcell : o.data = .cell (some (.int v tv))) (v0 : 0 ≤ v) (v1 : v < 1100000) (h5 : 5 ≤ hs.length)
  (hret : ∀ (m' : Str → Option Value) (h' : Heap) (tk' : Nat) (ua : Array UInt8) (q k : Int) (b : Array UInt8) (tb : Tok) (r : Addr) (t1 t2 t3 ta : Tok) (i : Nat), Fr base L h' m' → News base L h' ((lk, listOf kvs.toArray e2) :: (lh, listOf rs.toArray e1) :: (L + 1, o) :: rest) → Named m' an xr xp xi → m' (Str.ofString "heads") = some (.ref lh) → m' (Str.ofString "keys") = some (.ref lk) → m' (Str.ofString "at") = some (.int (i : Int) ta) → m' (Str.ofString "key") = some (.bytes b tb) → i < kvs.length → kvs[i]? = some (.bytes b tb) → KeyOf b ua q k → rs[i]? = some (.ref r) → (r, tripleObj ua t1 (0 - q) t2 (0 - k) t3) ∈ rest → Q .next { s with heap := h', toks := tk' }) :
  wpAny (model Challenge.rw_xw0260_01.row.prog w) (callerA.deeper (envOfC (Str.ofString "law") lawScope L fa cd)) (execs ((lawBody.drop 14).take 2) (envOfC (Str.ofString "law") lawScope L fa cd)) Q (fun _ _ => False) s := by
  revert X; k_fill; intro X
  rw [show (lawBody.drop 14).take 2 = [_, _] from rfl]
  rw [show lawScope = { kind := _, names := _, isGenerator := _, isCoroutine := _, more := _ } from rfl]
  obtain ⟨f1, f2, f3, f4, f5, f6, f7, f8, f9⟩ := hF
  obtain ⟨n1, n2, n3, n4⟩ := hN
  have hkl : kvs.length ≤ 7 := by rw [hK.length]; exact hn
  have hk5 : 5 ≤ kvs.length := by rw [hK.length]; exact h5
  obtain ⟨i, hi, hx⟩ : ∃ i : Nat, i < kvs.length ∧ v % (kvs.length : Int) = (i : Int) := ⟨(v % (kvs.length : Int)).toNat, by have := Int.emod_nonneg v (show (kvs.length : Int) ≠ 0 by omega); have := Int.emod_lt_of_pos v (show (0 : Int) < kvs.length by omega); omega, by have := Int.emod_nonneg v (show (kvs.length : Int) ≠ 0 by omega); omega⟩
  obtain ⟨ua, q, k, b, tb, r, t1, t2, t3, ia1, Ka, ia2, ia3⟩ := row_at hK hH i hi
  k_steps
  refine' hret _ _ _ ua q k b tb r t1 t2 t3 _ i ?hF ?hN ?h1 ?h2 ?h3 ?h4 ?h5 hi ia1 Ka ia2 ia3
  case hF => assumption
  case hN => assumption
  case h1 => exact ⟨n1, n2, n3, n4⟩
  case h2 => exact hh
  case h3 => exact hkk
  case h4 => rw [← hx]; rfl
  case h5 => rfl

set_option maxHeartbeats 4000000 in
theorem seg7 {w : World} {mean : ExcName → Option Value} {mg mb : Str → Option Value} {fa : Addr} {cd : Value} {base : Heap} {L : Addr} {m : Str → Option Value} {s : Shared} {Q : Flow → Shared → Prop} {an xr dr xp dp xi di xb db lh lk : Addr} {nv rs kvs : List Value} {hs : List (Array UInt8 × Int × Int)} {e e1 e2 : Nat} {ti : Tok} {rest : List (Addr × Obj)} {o : Obj} {ua b : Array UInt8} {q k : Int} {tb t1 t2 t3 : Tok} {i : Nat} {r : Addr} {ta : Tok} {la : Addr} (K0 : Below callerA base [] base) (F : Fr base L s.heap m) (X : (Mine.hd.heap_39 w.params).In base) (T : Top Mine.view (looseW Mine.view []) mean mg mb base)
  (N : News base L s.heap ((la, baObj b) :: ((lk, listOf kvs.toArray e2) :: (lh, listOf rs.toArray e1) :: (L + 1, o) :: rest))) (hl : @Ne Nat lh (L + 1)) (ll : @LT.lt Nat _ lh lk) (lL : @LT.lt Nat _ (L + 1) lk) (o1 : OffAt lh rest) (o2 : OffAt (L + 1) rest) (o3 : OffAt lk rest) (hF : Fixed w rest an nv e xr dr xp dp xi di ti xb db) (hN : Named m an xr xp xi) (hh : m (Str.ofString "heads") = some (.ref lh)) (hkk : m (Str.ofString "keys") = some (.ref lk)) (hH : HeadsIn rest rs hs) (hK : KeysAre kvs hs) (hn : hs.length ≤ 7) (hi : i < kvs.length) (r1 : kvs[i]? = some (.bytes b tb)) (K : KeyOf b ua q k) (r2 : rs[i]? = some (.ref r)) (r3 : (r, tripleObj ua t1 (0 - q) t2 (0 - k) t3) ∈ rest) (ha : m (Str.ofString "at") = some (.int (i : Int) ta)) (hkey : m (Str.ofString "key") = some (.bytes b tb)) (hlent : m (Str.ofString "lent") = some (.ref la)) (l7 : AllLt la ((lk, listOf kvs.toArray e2) :: (lh, listOf rs.toArray e1) :: (L + 1, o) :: rest)) (hk5 : 1 ≤ kvs.length)
  (hret : ∀ (m' : Str → Option Value) (h' : Heap) (tk' : Nat) (ls lg : Addr) (y1 y2 y3 x1 x2 x3 : Tok) (e3 : Nat), Fr base L h' m' → News base L h' ((ls, tripleObj ua y1 q y2 k y3) :: (lg, listOf #[.bytes b x1, .bytes b x2, .bytes b x3] e3) :: ((la, baObj b) :: ((lk, listOf kvs.toArray e2) :: (lh, listOf rs.toArray e1) :: (L + 1, o) :: rest))) → AllLt lg ((la, baObj b) :: ((lk, listOf kvs.toArray e2) :: (lh, listOf rs.toArray e1) :: (L + 1, o) :: rest)) → AllLt ls ((lg, listOf #[.bytes b x1, .bytes b x2, .bytes b x3] e3) :: ((la, baObj b) :: ((lk, listOf kvs.toArray e2) :: (lh, listOf rs.toArray e1) :: (L + 1, o) :: rest))) → Named m' an xr xp xi → m' (Str.ofString "heads") = some (.ref lh) → m' (Str.ofString "keys") = some (.ref lk) → m' (Str.ofString "at") = some (.int (i : Int) ta) → m' (Str.ofString "key") = some (.bytes b tb) → m' (Str.ofString "lent") = some (.ref la) → m' (Str.ofString "given") = some (.ref lg) → m' (Str.ofString "split") = some (.ref ls) → Q .next { s with heap := h', toks := tk' }) :
  wpAny (model Challenge.rw_xw0260_01.row.prog w) (callerA.deeper (envOfC (Str.ofString "law") lawScope L fa cd)) (execs ((lawBody.drop 17).take 4) (envOfC (Str.ofString "law") lawScope L fa cd)) Q (fun _ _ => False) s := by
  revert X; k_fill; intro X
  rw [show (lawBody.drop 17).take 4 = [_, _, _, _] from rfl]
  rw [show lawScope = { kind := _, names := _, isGenerator := _, isCoroutine := _, more := _ } from rfl]
  obtain ⟨f1, f2, f3, f4, f5, f6, f7, f8, f9⟩ := hF
  obtain ⟨n1, n2, n3, n4⟩ := hN
  have hkl : kvs.length ≤ 7 := by rw [hK.length]; exact hn
  obtain ⟨u0, q0, k0, b0, tb0, r0, s1, s2, s3, ia1, Ka, ia2, ia3⟩ := row_at hK hH 0 hk5
  obtain ⟨ks, hks, hb, h8, h13⟩ := K.open
  obtain ⟨us, hus⟩ : ∃ us, KBw.bInts ua = us := ⟨_, rfl⟩
  have hu5 : us.length ≤ 5 := hus ▸ K.short
  k_steps
  all_goals first
    | (exfalso; omega)
    | skip
  rename (KBw.bInts (ua ++ _) = _) => hAdd9
  rename News _ _ _ _ => N9
  rw [join_key K hus hb hAdd9] at N9
  have N10 := drop1 N9
  refine' hret _ _ _ _ _ _ _ _ _ _ _ _ ?hF ?hN ?hl1 ?hl2 ?h1 ?h2 ?h3 ?h4 ?h5 ?h6 ?h7 ?h8
  case hF => assumption
  case hN => exact N10
  case hl1 => simp only [AllLt]; assumption
  case hl2 => simp only [AllLt]; assumption
  case h1 => exact ⟨n1, n2, n3, n4⟩
  case h2 => exact hh
  case h3 => exact hkk
  case h4 => exact ha
  case h5 => exact hkey
  case h6 => exact hlent
  case h7 => rfl
  case h8 => rfl

theorem lines_56 : True := by
  k_with "m boot_fact" => with_reducible exact boot_ba
  trivial
set_option maxHeartbeats 4000000 in
theorem seg16 {w : World} {mean : ExcName → Option Value} {mg mb : Str → Option Value} {fa : Addr} {cd : Value} {base : Heap} {L : Addr} {m : Str → Option Value} {s : Shared} {Q : Flow → Shared → Prop} {an xr dr xp dp xi di xb db lh lk : Addr} {nv rs kvs : List Value} {hs : List (Array UInt8 × Int × Int)} {e e1 e2 : Nat} {ti : Tok} {rest : List (Addr × Obj)} {o : Obj} {ua b : Array UInt8} {q k : Int} {tb t1 t2 t3 : Tok} {i : Nat} {r : Addr} {ta : Tok} {pos₀ : Pos} (K0 : Below callerA base [] base) (F : Fr base L s.heap m) (X : (Mine.hd.heap_39 w.params).In base) (T : Top Mine.view (looseW Mine.view []) mean mg mb base)
  (N : News base L s.heap ((lk, listOf kvs.toArray e2) :: (lh, listOf rs.toArray e1) :: (L + 1, o) :: rest)) (hl : @Ne Nat lh (L + 1)) (ll : @LT.lt Nat _ lh lk) (lL : @LT.lt Nat _ (L + 1) lk) (o1 : OffAt lh rest) (o2 : OffAt (L + 1) rest) (o3 : OffAt lk rest) (hF : Fixed w rest an nv e xr dr xp dp xi di ti xb db) (hN : Named m an xr xp xi) (hh : m (Str.ofString "heads") = some (.ref lh)) (hkk : m (Str.ofString "keys") = some (.ref lk)) (hH : HeadsIn rest rs hs) (hK : KeysAre kvs hs) (hn : hs.length ≤ 7) (hi : i < kvs.length) (r1 : kvs[i]? = some (.bytes b tb)) (K : KeyOf b ua q k) (r2 : rs[i]? = some (.ref r)) (r3 : (r, tripleObj ua t1 (0 - q) t2 (0 - k) t3) ∈ rest) (ha : m (Str.ofString "at") = some (.int (i : Int) ta)) (hkey : m (Str.ofString "key") = some (.bytes b tb))
  (hret : ∀ (m' : Str → Option Value) (h' : Heap) (tk' : Nat) (la : Addr), Fr base L h' m' → News base L h' ((la, baObj b) :: ((lk, listOf kvs.toArray e2) :: (lh, listOf rs.toArray e1) :: (L + 1, o) :: rest)) → AllLt la ((lk, listOf kvs.toArray e2) :: (lh, listOf rs.toArray e1) :: (L + 1, o) :: rest) → Named m' an xr xp xi → m' (Str.ofString "heads") = some (.ref lh) → m' (Str.ofString "keys") = some (.ref lk) → m' (Str.ofString "at") = some (.int (i : Int) ta) → m' (Str.ofString "key") = some (.bytes b tb) → m' (Str.ofString "lent") = some (.ref la) → Q .next { s with heap := h', toks := tk' }) :
  wpX (model Challenge.rw_xw0260_01.row.prog w) (under pos₀ lawBody (envOfC (Str.ofString "law") lawScope L fa cd)) (execs ((lawBody.drop 16).take 1) (envOfC (Str.ofString "law") lawScope L fa cd)) Q (fun _ _ => False) s := by
  revert X; k_fill; intro X
  rw [show (lawBody.drop 16).take 1 = [_] from rfl]
  rw [show lawScope = { kind := _, names := _, isGenerator := _, isCoroutine := _, more := _ } from rfl]
  obtain ⟨f1, f2, f3, f4, f5, f6, f7, f8, f9⟩ := hF
  obtain ⟨n1, n2, n3, n4⟩ := hN
  refine execs_one (assign_ba_X (under_in _ _ _) (under_clean _ _ _) rfl ?_ rfl)
  k_steps
  all_goals first
    | (rw [sizeLine_eq]; have := K.open; obtain ⟨ks9, e9, e8, _, _⟩ := this; have e7 := KBw.ints_length b; rw [e8] at e7; omega)
    | skip
  rename (Heap.get? _ _ = some (baObj _)) => hG9
  rename Heap.SameBut _ _ _ => hS9
  rename Fr _ _ _ _ => F9
  rename News _ _ _ _ => N9
  obtain ⟨F8, N8, l8⟩ := made_ba F9 N9 hG9 hS9
  k_steps
  refine' hret _ _ _ _ ?hF ?hN ?hl ?h1 ?h2 ?h3 ?h4 ?h5 ?h6
  case hF => assumption
  case hN => assumption
  case hl => exact l8
  case h1 => exact ⟨n1, n2, n3, n4⟩
  case h2 => exact hh
  case h3 => exact hkk
  case h4 => exact ha
  case h5 => exact hkey
  case h6 => rfl

set_option maxHeartbeats 4000000 in
theorem seg21 {w : World} {mean : ExcName → Option Value} {mg mb : Str → Option Value} {fa : Addr} {cd : Value} {base : Heap} {L : Addr} {m : Str → Option Value} {s : Shared} {Q : Flow → Shared → Prop} {an xr dr xp dp xi di xb db lh lk : Addr} {nv rs kvs : List Value} {hs : List (Array UInt8 × Int × Int)} {e e1 e2 : Nat} {ti : Tok} {rest : List (Addr × Obj)} {o : Obj} {ua b : Array UInt8} {q k : Int} {tb t1 t2 t3 : Tok} {i : Nat} {r : Addr} {ta : Tok} {la : Addr} {ls lg : Addr} {y1 y2 y3 : Tok} {gv : List Value} {e3 : Nat} {pos₀ : Pos} (K0 : Below callerA base [] base) (F : Fr base L s.heap m) (X : (Mine.hd.heap_39 w.params).In base) (T : Top Mine.view (looseW Mine.view []) mean mg mb base)
  (N : News base L s.heap ((ls, tripleObj ua y1 q y2 k y3) :: (lg, listOf gv.toArray e3) :: ((la, baObj b) :: ((lk, listOf kvs.toArray e2) :: (lh, listOf rs.toArray e1) :: (L + 1, o) :: rest)))) (hl : @Ne Nat lh (L + 1)) (ll : @LT.lt Nat _ lh lk) (lL : @LT.lt Nat _ (L + 1) lk) (o1 : OffAt lh rest) (o2 : OffAt (L + 1) rest) (o3 : OffAt lk rest) (hF : Fixed w rest an nv e xr dr xp dp xi di ti xb db) (hN : Named m an xr xp xi) (hh : m (Str.ofString "heads") = some (.ref lh)) (hkk : m (Str.ofString "keys") = some (.ref lk)) (hH : HeadsIn rest rs hs) (hK : KeysAre kvs hs) (hn : hs.length ≤ 7) (hi : i < kvs.length) (r1 : kvs[i]? = some (.bytes b tb)) (K : KeyOf b ua q k) (r2 : rs[i]? = some (.ref r)) (r3 : (r, tripleObj ua t1 (0 - q) t2 (0 - k) t3) ∈ rest) (ha : m (Str.ofString "at") = some (.int (i : Int) ta)) (hkey : m (Str.ofString "key") = some (.bytes b tb)) (hlent : m (Str.ofString "lent") = some (.ref la)) (hgiven : m (Str.ofString "given") = some (.ref lg)) (hsplit : m (Str.ofString "split") = some (.ref ls)) (l7 : AllLt la ((lk, listOf kvs.toArray e2) :: (lh, listOf rs.toArray e1) :: (L + 1, o) :: rest)) (lG : AllLt lg ((la, baObj b) :: ((lk, listOf kvs.toArray e2) :: (lh, listOf rs.toArray e1) :: (L + 1, o) :: rest))) (lS : AllLt ls ((lg, listOf gv.toArray e3) :: ((la, baObj b) :: ((lk, listOf kvs.toArray e2) :: (lh, listOf rs.toArray e1) :: (L + 1, o) :: rest)))) (hg : ∀ v ∈ gv, ∃ t, v = Value.bytes b t)
  (hret : ∀ (m' : Str → Option Value) (h' : Heap) (tk' : Nat) (ln : Addr), Fr base L h' m' → News base L h' ((ln, baObj ua) :: ((ls, tripleObj ua y1 q y2 k y3) :: (lg, listOf gv.toArray e3) :: ((la, baObj b) :: ((lk, listOf kvs.toArray e2) :: (lh, listOf rs.toArray e1) :: (L + 1, o) :: rest)))) → AllLt ln ((ls, tripleObj ua y1 q y2 k y3) :: (lg, listOf gv.toArray e3) :: ((la, baObj b) :: ((lk, listOf kvs.toArray e2) :: (lh, listOf rs.toArray e1) :: (L + 1, o) :: rest))) → Named m' an xr xp xi → m' (Str.ofString "heads") = some (.ref lh) → m' (Str.ofString "keys") = some (.ref lk) → m' (Str.ofString "at") = some (.int (i : Int) ta) → m' (Str.ofString "key") = some (.bytes b tb) → m' (Str.ofString "lent") = some (.ref la) → m' (Str.ofString "given") = some (.ref lg) → m' (Str.ofString "split") = some (.ref ls) → m' (Str.ofString "name") = some (.ref ln) →  Q .next { s with heap := h', toks := tk' }) :
  wpX (model Challenge.rw_xw0260_01.row.prog w) (under pos₀ lawBody (envOfC (Str.ofString "law") lawScope L fa cd)) (execs ((lawBody.drop 21).take 1) (envOfC (Str.ofString "law") lawScope L fa cd)) Q (fun _ _ => False) s := by
  revert X; k_fill; intro X
  rw [show (lawBody.drop 21).take 1 = [_] from rfl]
  rw [show lawScope = { kind := _, names := _, isGenerator := _, isCoroutine := _, more := _ } from rfl]
  obtain ⟨f1, f2, f3, f4, f5, f6, f7, f8, f9⟩ := hF
  obtain ⟨n1, n2, n3, n4⟩ := hN
  have hkl : kvs.length ≤ 7 := by rw [hK.length]; exact hn
  refine execs_one (assign_ba_X (under_in _ _ _) (under_clean _ _ _) rfl ?_ rfl)
  k_steps
  all_goals first
    | (rw [sizeLine_eq]; have e8 := K.short; have e7 := KBw.ints_length ua; omega)
    | skip
  rename (Heap.get? _ _ = some (baObj _)) => hG9
  rename Heap.SameBut _ _ _ => hS9
  rename Fr _ _ _ _ => F9
  rename News _ _ _ _ => N9
  obtain ⟨F8, N8, l8⟩ := made_ba F9 N9 hG9 hS9
  k_steps
  refine' hret _ _ _ _ ?hF ?hN ?hl ?h1 ?h2 ?h3 ?h4 ?h5 ?h6 ?h7 ?h8 ?h9
  case hF => assumption
  case hN => assumption
  case hl => exact l8
  case h1 => exact ⟨n1, n2, n3, n4⟩
  case h2 => exact hh
  case h3 => exact hkk
  case h4 => exact ha
  case h5 => exact hkey
  case h6 => exact hlent
  case h7 => exact hgiven
  case h8 => exact hsplit
  case h9 => rfl

set_option maxHeartbeats 4000000 in
theorem seg22 {w : World} {mean : ExcName → Option Value} {mg mb : Str → Option Value} {fa : Addr} {cd : Value} {base : Heap} {L : Addr} {m : Str → Option Value} {s : Shared} {Q : Flow → Shared → Prop} {an xr dr xp dp xi di xb db lh lk : Addr} {nv rs kvs : List Value} {hs : List (Array UInt8 × Int × Int)} {e e1 e2 : Nat} {ti : Tok} {rest : List (Addr × Obj)} {o : Obj} {ua b : Array UInt8} {q k : Int} {tb t1 t2 t3 : Tok} {i : Nat} {r : Addr} {ta : Tok} {la : Addr} {ls lg : Addr} {y1 y2 y3 : Tok} {gv : List Value} {e3 : Nat} {ln : Addr} (K0 : Below callerA base [] base) (F : Fr base L s.heap m) (X : (Mine.hd.heap_39 w.params).In base) (T : Top Mine.view (looseW Mine.view []) mean mg mb base)
  (N : News base L s.heap ((ln, baObj ua) :: ((ls, tripleObj ua y1 q y2 k y3) :: (lg, listOf gv.toArray e3) :: ((la, baObj b) :: ((lk, listOf kvs.toArray e2) :: (lh, listOf rs.toArray e1) :: (L + 1, o) :: rest))))) (hl : @Ne Nat lh (L + 1)) (ll : @LT.lt Nat _ lh lk) (lL : @LT.lt Nat _ (L + 1) lk) (o1 : OffAt lh rest) (o2 : OffAt (L + 1) rest) (o3 : OffAt lk rest) (hF : Fixed w rest an nv e xr dr xp dp xi di ti xb db) (hN : Named m an xr xp xi) (hh : m (Str.ofString "heads") = some (.ref lh)) (hkk : m (Str.ofString "keys") = some (.ref lk)) (hH : HeadsIn rest rs hs) (hK : KeysAre kvs hs) (hn : hs.length ≤ 7) (hi : i < kvs.length) (r1 : kvs[i]? = some (.bytes b tb)) (K : KeyOf b ua q k) (r2 : rs[i]? = some (.ref r)) (r3 : (r, tripleObj ua t1 (0 - q) t2 (0 - k) t3) ∈ rest) (ha : m (Str.ofString "at") = some (.int (i : Int) ta)) (hkey : m (Str.ofString "key") = some (.bytes b tb)) (hlent : m (Str.ofString "lent") = some (.ref la)) (hgiven : m (Str.ofString "given") = some (.ref lg)) (hsplit : m (Str.ofString "split") = some (.ref ls)) (l7 : AllLt la ((lk, listOf kvs.toArray e2) :: (lh, listOf rs.toArray e1) :: (L + 1, o) :: rest)) (lG : AllLt lg ((la, baObj b) :: ((lk, listOf kvs.toArray e2) :: (lh, listOf rs.toArray e1) :: (L + 1, o) :: rest))) (lS : AllLt ls ((lg, listOf gv.toArray e3) :: ((la, baObj b) :: ((lk, listOf kvs.toArray e2) :: (lh, listOf rs.toArray e1) :: (L + 1, o) :: rest)))) (hg : ∀ v ∈ gv, ∃ t, v = Value.bytes b t) (lN : AllLt ln ((ls, tripleObj ua y1 q y2 k y3) :: (lg, listOf gv.toArray e3) :: ((la, baObj b) :: ((lk, listOf kvs.toArray e2) :: (lh, listOf rs.toArray e1) :: (L + 1, o) :: rest)))) (hname : m (Str.ofString "name") = some (.ref ln)) (hgl : gv.length = 3)
  (hret : ∀ (m' : Str → Option Value) (h' : Heap) (tk' : Nat) (gv' : List Value) (e3' : Nat), Fr base L h' m' → News base L h' ((ln, baObj ua) :: ((ls, tripleObj ua y1 q y2 k y3) :: (lg, listOf gv'.toArray e3') :: ((la, baObj b) :: ((lk, listOf kvs.toArray e2) :: (lh, listOf rs.toArray e1) :: (L + 1, o) :: rest)))) → (∀ v ∈ gv', ∃ t, v = Value.bytes b t) → gv'.length = 4 → Named m' an xr xp xi → m' (Str.ofString "heads") = some (.ref lh) → m' (Str.ofString "keys") = some (.ref lk) → m' (Str.ofString "at") = some (.int (i : Int) ta) → m' (Str.ofString "key") = some (.bytes b tb) → m' (Str.ofString "lent") = some (.ref la) → m' (Str.ofString "given") = some (.ref lg) → m' (Str.ofString "split") = some (.ref ls) → m' (Str.ofString "name") = some (.ref ln) →  Q .next { s with heap := h', toks := tk' }) :
  wpAny (model Challenge.rw_xw0260_01.row.prog w) (callerA.deeper (envOfC (Str.ofString "law") lawScope L fa cd)) (execs ((lawBody.drop 22).take 1) (envOfC (Str.ofString "law") lawScope L fa cd)) Q (fun _ _ => False) s := by
  revert X; k_fill; intro X
  rw [show (lawBody.drop 22).take 1 = [_] from rfl]
  rw [show lawScope = { kind := _, names := _, isGenerator := _, isCoroutine := _, more := _ } from rfl]
  obtain ⟨f1, f2, f3, f4, f5, f6, f7, f8, f9⟩ := hF
  obtain ⟨n1, n2, n3, n4⟩ := hN
  have hkl : kvs.length ≤ 7 := by rw [hK.length]; exact hn
  have z9 : gv.toArray.size ≤ sizeLine := by rw [sizeLine_eq, List.size_toArray]; omega
  have hu5 := K.short
  have g0 := K.s0
  have g1 := K.s1
  have g2 := K.k0
  have g3 := K.k1
  simp only [AllLt] at l7 lG lS lN
  k_steps
  rename News _ _ _ _ => N9
  rename KeyOf _ _ _ _ => Kr
  have eb := key_same (key_back Kr) K
  rw [List.push_toArray] at N9
  refine' hret _ _ _ _ _ ?hF ?hN ?hg ?hl ?h1 ?h2 ?h3 ?h4 ?h5 ?h6 ?h7 ?h8 ?h9
  case hF => assumption
  case hN => exact N9
  case hg =>
    intro v hv
    rcases List.mem_append.mp hv with h | h
    · exact hg v h
    · rw [List.mem_singleton.mp h, eb]; exact ⟨_, rfl⟩
  case hl => rw [List.length_append, hgl]; rfl
  case h1 => exact ⟨n1, n2, n3, n4⟩
  case h2 => exact hh
  case h3 => exact hkk
  case h4 => exact ha
  case h5 => exact hkey
  case h6 => exact hlent
  case h7 => exact hgiven
  case h8 => exact hsplit
  case h9 => exact hname

set_option maxHeartbeats 4000000 in
theorem seg23 {w : World} {mean : ExcName → Option Value} {mg mb : Str → Option Value} {fa : Addr} {cd : Value} {base : Heap} {L : Addr} {m : Str → Option Value} {s : Shared} {Q : Flow → Shared → Prop} {an xr dr xp dp xi di xb db lh lk : Addr} {nv rs kvs : List Value} {hs : List (Array UInt8 × Int × Int)} {e e1 e2 : Nat} {ti : Tok} {rest : List (Addr × Obj)} {o : Obj} {ua b : Array UInt8} {q k : Int} {tb t1 t2 t3 : Tok} {i : Nat} {r : Addr} {ta : Tok} {la : Addr} {ls lg : Addr} {y1 y2 y3 : Tok} {gv : List Value} {e3 : Nat} {ln : Addr} (K0 : Below callerA base [] base) (F : Fr base L s.heap m) (X : (Mine.hd.heap_39 w.params).In base) (T : Top Mine.view (looseW Mine.view []) mean mg mb base)
  (N : News base L s.heap ((ln, baObj ua) :: ((ls, tripleObj ua y1 q y2 k y3) :: (lg, listOf gv.toArray e3) :: ((la, baObj b) :: ((lk, listOf kvs.toArray e2) :: (lh, listOf rs.toArray e1) :: (L + 1, o) :: rest))))) (hl : @Ne Nat lh (L + 1)) (ll : @LT.lt Nat _ lh lk) (lL : @LT.lt Nat _ (L + 1) lk) (o1 : OffAt lh rest) (o2 : OffAt (L + 1) rest) (o3 : OffAt lk rest) (hF : Fixed w rest an nv e xr dr xp dp xi di ti xb db) (hN : Named m an xr xp xi) (hh : m (Str.ofString "heads") = some (.ref lh)) (hkk : m (Str.ofString "keys") = some (.ref lk)) (hH : HeadsIn rest rs hs) (hK : KeysAre kvs hs) (hn : hs.length ≤ 7) (hi : i < kvs.length) (r1 : kvs[i]? = some (.bytes b tb)) (K : KeyOf b ua q k) (r2 : rs[i]? = some (.ref r)) (r3 : (r, tripleObj ua t1 (0 - q) t2 (0 - k) t3) ∈ rest) (ha : m (Str.ofString "at") = some (.int (i : Int) ta)) (hkey : m (Str.ofString "key") = some (.bytes b tb)) (hlent : m (Str.ofString "lent") = some (.ref la)) (hgiven : m (Str.ofString "given") = some (.ref lg)) (hsplit : m (Str.ofString "split") = some (.ref ls)) (l7 : AllLt la ((lk, listOf kvs.toArray e2) :: (lh, listOf rs.toArray e1) :: (L + 1, o) :: rest)) (lG : AllLt lg ((la, baObj b) :: ((lk, listOf kvs.toArray e2) :: (lh, listOf rs.toArray e1) :: (L + 1, o) :: rest))) (lS : AllLt ls ((lg, listOf gv.toArray e3) :: ((la, baObj b) :: ((lk, listOf kvs.toArray e2) :: (lh, listOf rs.toArray e1) :: (L + 1, o) :: rest)))) (hg : ∀ v ∈ gv, ∃ t, v = Value.bytes b t) (lN : AllLt ln ((ls, tripleObj ua y1 q y2 k y3) :: (lg, listOf gv.toArray e3) :: ((la, baObj b) :: ((lk, listOf kvs.toArray e2) :: (lh, listOf rs.toArray e1) :: (L + 1, o) :: rest)))) (hname : m (Str.ofString "name") = some (.ref ln))
  (hret : ∀ (m' : Str → Option Value) (h' : Heap) (tk' : Nat), Fr base L h' m' → News base L h' ((ln, baObj ua) :: (ls, tripleObj ua y1 q y2 k y3) :: (lg, listOf gv.toArray e3) :: ((lk, listOf kvs.toArray e2) :: (lh, listOf rs.toArray e1) :: (L + 1, o) :: rest)) → Named m' an xr xp xi → m' (Str.ofString "heads") = some (.ref lh) → m' (Str.ofString "keys") = some (.ref lk) → m' (Str.ofString "at") = some (.int (i : Int) ta) → m' (Str.ofString "key") = some (.bytes b tb) → m' (Str.ofString "given") = some (.ref lg) → m' (Str.ofString "split") = some (.ref ls) → m' (Str.ofString "name") = some (.ref ln) →  Q .next { s with heap := h', toks := tk' }) :
  wpAny (model Challenge.rw_xw0260_01.row.prog w) (callerA.deeper (envOfC (Str.ofString "law") lawScope L fa cd)) (execs ((lawBody.drop 23).take 1) (envOfC (Str.ofString "law") lawScope L fa cd)) Q (fun _ _ => False) s := by
  revert X; k_fill; intro X
  rw [show (lawBody.drop 23).take 1 = [_] from rfl]
  rw [show lawScope = { kind := _, names := _, isGenerator := _, isCoroutine := _, more := _ } from rfl]
  obtain ⟨f1, f2, f3, f4, f5, f6, f7, f8, f9⟩ := hF
  obtain ⟨n1, n2, n3, n4⟩ := hN
  have hkl : kvs.length ≤ 7 := by rw [hK.length]; exact hn
  obtain ⟨ks, hks, hb, h8, h13⟩ := K.open
  simp only [AllLt] at l7 lG lS lN
  have hd9 : ∀ p ∈ ((ln, baObj ua) :: (ls, tripleObj ua y1 q y2 k y3) :: (lg, listOf gv.toArray e3) :: ((lk, listOf kvs.toArray e2) :: (lh, listOf rs.toArray e1) :: (L + 1, o) :: rest)), p.1 ≠ la := by
    intro p hp
    simp only [List.mem_cons] at hp
    rcases hp with rfl | rfl | rfl | rfl | rfl | rfl | h
    · exact Nat.ne_of_gt lN.2.2.1
    · exact Nat.ne_of_gt lS.2.1
    · exact Nat.ne_of_gt lG.1
    · exact Nat.ne_of_lt l7.1
    · exact Nat.ne_of_lt l7.2.1
    · exact Nat.ne_of_lt l7.2.2.1
    · exact allLt_off l7.2.2.2 p h
  replace N := News.fourth N
  k_steps
  refine' loop_ba (R := fun m => Named m an xr xp xi ∧ m (Str.ofString "heads") = some (.ref lh) ∧ m (Str.ofString "keys") = some (.ref lk) ∧ m (Str.ofString "at") = some (.int (i : Int) ta) ∧ m (Str.ofString "key") = some (.bytes b tb) ∧ m (Str.ofString "given") = some (.ref lg) ∧ m (Str.ofString "split") = some (.ref ls) ∧ m (Str.ofString "name") = some (.ref ln) ∧ m (Str.ofString "lent") = some (.ref la)) ?turn0 ?done0 ?init0 ?hb0 ?off0
  case init0 => exact ⟨⟨n1, n2, n3, n4⟩, hh, hkk, ha, hkey, hgiven, hsplit, hname, hlent⟩
  case hb0 => rw [hb]
  case off0 => assumption
  case done0 =>
    intro m9 h9 tk9 b9 hb9 p F9 N9
    obtain ⟨p1, p2, p3, p4, p5, p6, p7, p8, p9⟩ := p
    k_steps
    exact hret m9 h9 tk9 F9 (drop1 N9) p1 p2 p3 p4 p5 p6 p7 p8
  intro j m9 t9 h9 tk9 J9 b9 hj9 hb9 hp o9 F9 N9
  obtain ⟨⟨q1, q2, q3, q4⟩, q5, q6, q7, q8, q9, q10, q11, q12⟩ := hp
  k_steps
  refine' set_ba (own := [_]) ?hF ?hN ?hd1 ?hd2 rfl ?hz ?h0 ?hi ?v0 ?v1 ?_
  case hF => assumption
  case hN => assumption
  case hd1 => intro p hp; rw [List.mem_singleton.mp hp]; exact fun e => o9 _ (.head _) e.symm
  case hd2 => exact hd9
  case hz => rw [hb9]; omega
  case h0 => omega
  case hi => rw [hb9]; omega
  case v0 => decide
  case v1 => decide
  intro h' k' F' N'
  simp only [List.cons_append, List.nil_append] at N'
  k_steps
  refine' post_ba ?hF ?hN o9 ?hb ?hr
  case hF => assumption
  case hN => assumption
  case hr => exact ⟨⟨q1, q2, q3, q4⟩, q5, q6, q7, q8, q9, q10, q11, q12⟩
  case hb => exact set_length hb9

set_option maxHeartbeats 4000000 in
theorem seg24 {w : World} {mean : ExcName → Option Value} {mg mb : Str → Option Value} {fa : Addr} {cd : Value} {base : Heap} {L : Addr} {m : Str → Option Value} {s : Shared} {Q : Flow → Shared → Prop} {an xr dr xp dp xi di xb db lh lk : Addr} {nv rs kvs : List Value} {hs : List (Array UInt8 × Int × Int)} {e e1 e2 : Nat} {ti : Tok} {rest : List (Addr × Obj)} {o : Obj} {ua b : Array UInt8} {q k : Int} {tb t1 t2 t3 : Tok} {i : Nat} {r : Addr} {ta : Tok} {ls lg ln : Addr} {y1 y2 y3 : Tok} {gv : List Value} {e3 : Nat} {pos₀ : Pos} (K0 : Below callerA base [] base) (F : Fr base L s.heap m) (X : (Mine.hd.heap_39 w.params).In base) (T : Top Mine.view (looseW Mine.view []) mean mg mb base)
  (N : News base L s.heap ((ln, baObj ua) :: (ls, tripleObj ua y1 q y2 k y3) :: (lg, listOf gv.toArray e3) :: ((lk, listOf kvs.toArray e2) :: (lh, listOf rs.toArray e1) :: (L + 1, o) :: rest))) (hl : @Ne Nat lh (L + 1)) (ll : @LT.lt Nat _ lh lk) (lL : @LT.lt Nat _ (L + 1) lk) (o1 : OffAt lh rest) (o2 : OffAt (L + 1) rest) (o3 : OffAt lk rest) (hF : Fixed w rest an nv e xr dr xp dp xi di ti xb db) (hN : Named m an xr xp xi) (hh : m (Str.ofString "heads") = some (.ref lh)) (hkk : m (Str.ofString "keys") = some (.ref lk)) (hH : HeadsIn rest rs hs) (hK : KeysAre kvs hs) (hn : hs.length ≤ 7) (hi : i < kvs.length) (r1 : kvs[i]? = some (.bytes b tb)) (K : KeyOf b ua q k) (r2 : rs[i]? = some (.ref r)) (r3 : (r, tripleObj ua t1 (0 - q) t2 (0 - k) t3) ∈ rest) (ha : m (Str.ofString "at") = some (.int (i : Int) ta)) (hkey : m (Str.ofString "key") = some (.bytes b tb)) (hgiven : m (Str.ofString "given") = some (.ref lg)) (hsplit : m (Str.ofString "split") = some (.ref ls)) (hname : m (Str.ofString "name") = some (.ref ln)) (lN : AllLt ln ((ls, tripleObj ua y1 q y2 k y3) :: (lg, listOf gv.toArray e3) :: ((lk, listOf kvs.toArray e2) :: (lh, listOf rs.toArray e1) :: (L + 1, o) :: rest)))
  (hret : ∀ (m' : Str → Option Value) (h' : Heap) (tk' : Nat), Fr base L h' m' → News base L h' ((ls, tripleObj ua y1 q y2 k y3) :: (lg, listOf gv.toArray e3) :: ((lk, listOf kvs.toArray e2) :: (lh, listOf rs.toArray e1) :: (L + 1, o) :: rest)) → Named m' an xr xp xi → m' (Str.ofString "heads") = some (.ref lh) → m' (Str.ofString "keys") = some (.ref lk) → m' (Str.ofString "at") = some (.int (i : Int) ta) → m' (Str.ofString "key") = some (.bytes b tb) → m' (Str.ofString "given") = some (.ref lg) → m' (Str.ofString "split") = some (.ref ls) →  Q .next { s with heap := h', toks := tk' }) :
  wpX (model Challenge.rw_xw0260_01.row.prog w) (under pos₀ lawBody (envOfC (Str.ofString "law") lawScope L fa cd)) (execs ((lawBody.drop 24).take 1) (envOfC (Str.ofString "law") lawScope L fa cd)) Q (fun _ _ => False) s := by
  revert X; k_fill; intro X
  rw [show (lawBody.drop 24).take 1 = [_] from rfl]
  rw [show lawScope = { kind := _, names := _, isGenerator := _, isCoroutine := _, more := _ } from rfl]
  obtain ⟨f1, f2, f3, f4, f5, f6, f7, f8, f9⟩ := hF
  obtain ⟨n1, n2, n3, n4⟩ := hN
  have hkl : kvs.length ≤ 7 := by rw [hK.length]; exact hn
  refine execs_one (append_ba_X (under_in _ _ _) (under_clean _ _ _) rfl rfl ?_ rfl rfl)
  first | walk1 | (k_unfold; walk1)
  refine ⟨ln, ua, rfl, (N _ (.head _)).1, ?_⟩
  first | walk1 | (k_unfold; walk1)
  refine ⟨7, _, rfl, by decide, by decide, ?_, (N _ (.head _)).1, ?_⟩
  · rw [sizeLine_eq]; have e8 := K.short; have e7 := KBw.ints_length ua; omega
  intro h' hG9 hS9
  obtain ⟨F8, N8⟩ := changed_ba F N (allLt_off lN) hG9 hS9
  exact hret _ _ _ F8 (drop1 N8) ⟨n1, n2, n3, n4⟩ hh hkk ha hkey hgiven hsplit

set_option maxHeartbeats 4000000 in
theorem seg25 {w : World} {mean : ExcName → Option Value} {mg mb : Str → Option Value} {fa : Addr} {cd : Value} {base : Heap} {L : Addr} {m : Str → Option Value} {s : Shared} {Q : Flow → Shared → Prop} {an xr dr xp dp xi di xb db lh lk : Addr} {nv rs kvs : List Value} {hs : List (Array UInt8 × Int × Int)} {e e1 e2 : Nat} {ti : Tok} {rest : List (Addr × Obj)} {o : Obj} {ua b : Array UInt8} {q k : Int} {tb t1 t2 t3 : Tok} {i : Nat} {r : Addr} {ta : Tok} {ls lg : Addr} {y1 y2 y3 : Tok} {gv : List Value} {e3 : Nat} (K0 : Below callerA base [] base) (F : Fr base L s.heap m) (X : (Mine.hd.heap_39 w.params).In base) (T : Top Mine.view (looseW Mine.view []) mean mg mb base)
  (N : News base L s.heap ((ls, tripleObj ua y1 q y2 k y3) :: (lg, listOf gv.toArray e3) :: ((lk, listOf kvs.toArray e2) :: (lh, listOf rs.toArray e1) :: (L + 1, o) :: rest))) (hl : @Ne Nat lh (L + 1)) (ll : @LT.lt Nat _ lh lk) (lL : @LT.lt Nat _ (L + 1) lk) (o1 : OffAt lh rest) (o2 : OffAt (L + 1) rest) (o3 : OffAt lk rest) (hF : Fixed w rest an nv e xr dr xp dp xi di ti xb db) (hN : Named m an xr xp xi) (hh : m (Str.ofString "heads") = some (.ref lh)) (hkk : m (Str.ofString "keys") = some (.ref lk)) (hH : HeadsIn rest rs hs) (hK : KeysAre kvs hs) (hn : hs.length ≤ 7) (hi : i < kvs.length) (r1 : kvs[i]? = some (.bytes b tb)) (K : KeyOf b ua q k) (r2 : rs[i]? = some (.ref r)) (r3 : (r, tripleObj ua t1 (0 - q) t2 (0 - k) t3) ∈ rest) (ha : m (Str.ofString "at") = some (.int (i : Int) ta)) (hkey : m (Str.ofString "key") = some (.bytes b tb)) (hgiven : m (Str.ofString "given") = some (.ref lg)) (hsplit : m (Str.ofString "split") = some (.ref ls)) (lG : AllLt lg ((lk, listOf kvs.toArray e2) :: (lh, listOf rs.toArray e1) :: (L + 1, o) :: rest)) (lS : AllLt ls ((lg, listOf gv.toArray e3) :: ((lk, listOf kvs.toArray e2) :: (lh, listOf rs.toArray e1) :: (L + 1, o) :: rest))) (hg : ∀ v ∈ gv, ∃ t, v = Value.bytes b t) (hgl : gv.length = 4)
  (hret : ∀ (m' : Str → Option Value) (h' : Heap) (tk' : Nat), Fr base L h' m' → News base L h' ((lk, listOf kvs.toArray e2) :: (lh, listOf rs.toArray e1) :: (L + 1, o) :: rest) → Named m' an xr xp xi → m' (Str.ofString "heads") = some (.ref lh) → m' (Str.ofString "keys") = some (.ref lk) → m' (Str.ofString "at") = some (.int (i : Int) ta) → m' (Str.ofString "key") = some (.bytes b tb) →  Q .next { s with heap := h', toks := tk' }) :
  wpAny (model Challenge.rw_xw0260_01.row.prog w) (callerA.deeper (envOfC (Str.ofString "law") lawScope L fa cd)) (execs ((lawBody.drop 25).take 2) (envOfC (Str.ofString "law") lawScope L fa cd)) Q (fun _ _ => False) s := by
  revert X; k_fill; intro X
  rw [show (lawBody.drop 25).take 2 = [_, _] from rfl]
  rw [show lawScope = { kind := _, names := _, isGenerator := _, isCoroutine := _, more := _ } from rfl]
  obtain ⟨f1, f2, f3, f4, f5, f6, f7, f8, f9⟩ := hF
  obtain ⟨n1, n2, n3, n4⟩ := hN
  have hkl : kvs.length ≤ 7 := by rw [hK.length]; exact hn
  obtain ⟨ks, hks, hb, h8, h13⟩ := K.open
  obtain ⟨us, hus⟩ : ∃ us, KBw.bInts ua = us := ⟨_, rfl⟩
  have hu5 : us.length ≤ 5 := hus ▸ K.short
  have z9 : gv.toArray.size ≤ sizeLine := by rw [sizeLine_eq, List.size_toArray]; omega
  simp only [AllLt] at lG lS
  k_steps
  rename (KBw.bInts (ua ++ _) = _) => hA9
  rename News _ _ _ _ => N9
  rw [join_key K hus hb hA9, List.push_toArray] at N9
  (rename Fr _ _ _ _ => lF9)
  (with_unfolding_all refine' For_turns lF9 ?_)
  k_steps
  refine' items_same (R := fun m => Named m an xr xp xi ∧ m (Str.ofString "heads") = some (.ref lh) ∧ m (Str.ofString "keys") = some (.ref lk) ∧ m (Str.ofString "at") = some (.int (i : Int) ta) ∧ m (Str.ofString "key") = some (.bytes b tb)) ?turn2 ?done2 ?init2 ?off2
  case init2 => exact ⟨⟨n1, n2, n3, n4⟩, hh, hkk, ha, hkey⟩
  case off2 => assumption
  case done2 =>
    intro m7 h7 tk7 p F7 N7
    obtain ⟨p1, p2, p3, p4, p5⟩ := p
    k_steps
    exact hret m7 h7 tk7 F7 (drop1 (drop1 N7)) p1 p2 p3 p4 p5
  intro g v m7 h7 tk7 ob7 I7 hv7 hp7 o7 F7 hc7 N7
  obtain ⟨⟨q1, q2, q3, q4⟩, q5, q6, q7, q8⟩ := hp7
  obtain ⟨t9, rfl⟩ : ∃ t, v = Value.bytes b t := by
    rcases List.mem_append.mp (List.mem_of_getElem? hv7) with h | h
    · exact hg v h
    · rw [List.mem_singleton.mp h]; exact ⟨_, rfl⟩
  k_steps
  all_goals (first
    | (exfalso; (rename (_ ≠ _) => hb9); exact hb9 rfl)
    | (exfalso; (rename _ = true => hb9); exact bytes_ne hb9)
    | (exfalso; omega)
    | skip)
  refine' unr_same ?hF ?hN ?hs o7 ?ha ?hr
  case hF => assumption
  case hN => assumption
  case hs => (intro p9 h9; first | exact h9 | exact .tail _ h9 | exact .tail _ (.tail _ h9) | exact .tail _ (.tail _ (.tail _ h9)))
  case ha => exact .tail _ (.head _)
  case hr => exact ⟨⟨q1, q2, q3, q4⟩, q5, q6, q7, q8⟩

set_option maxHeartbeats 4000000 in
theorem seg27 {w : World} {mean : ExcName → Option Value} {mg mb : Str → Option Value} {fa : Addr} {cd : Value} {base : Heap} {L : Addr} {m : Str → Option Value} {s : Shared} {Q : Flow → Shared → Prop} {an xr dr xp dp xi di xb db lh lk : Addr} {nv rs kvs : List Value} {hs : List (Array UInt8 × Int × Int)} {e e1 e2 : Nat} {ti : Tok} {rest : List (Addr × Obj)} {o : Obj} {v : Int} {tv : Tok} {ua b : Array UInt8} {q k : Int} {tb t1 t2 t3 : Tok} {i : Nat} {r : Addr} {ta : Tok} (K0 : Below callerA base [] base) (F : Fr base L s.heap m) (X : (Mine.hd.heap_39 w.params).In base) (T : Top Mine.view (looseW Mine.view []) mean mg mb base)
  (N : News base L s.heap ((lk, listOf kvs.toArray e2) :: (lh, listOf rs.toArray e1) :: (L + 1, o) :: rest)) (hl : @Ne Nat lh (L + 1)) (ll : @LT.lt Nat _ lh lk) (lL : @LT.lt Nat _ (L + 1) lk) (o1 : OffAt lh rest) (o2 : OffAt (L + 1) rest) (o3 : OffAt lk rest) (hF : Fixed w rest an nv e xr dr xp dp xi di ti xb db) (hN : Named m an xr xp xi) (hh : m (Str.ofString "heads") = some (.ref lh)) (hkk : m (Str.ofString "keys") = some (.ref lk)) (hH : HeadsIn rest rs hs) (hK : KeysAre kvs hs) (hn : hs.length ≤ 7) (hcell : o.data = .cell (some (.int v tv))) (v0 : 0 ≤ v) (v1 : v < 1100000) (hi : i < kvs.length) (r1 : kvs[i]? = some (.bytes b tb)) (K : KeyOf b ua q k) (r2 : rs[i]? = some (.ref r)) (r3 : (r, tripleObj ua t1 (0 - q) t2 (0 - k) t3) ∈ rest) (ha : m (Str.ofString "at") = some (.int (i : Int) ta)) (hkey : m (Str.ofString "key") = some (.bytes b tb))
  (hret : ∀ (m' : Str → Option Value) (h' : Heap) (tk' : Nat) (far : Int) (tf : Tok), 1 ≤ far → far < 100000000000 → Fr base L h' m' → News base L h' ((lk, listOf kvs.toArray e2) :: (lh, listOf rs.toArray e1) :: (L + 1, o) :: rest) → Named m' an xr xp xi → m' (Str.ofString "heads") = some (.ref lh) → m' (Str.ofString "keys") = some (.ref lk) → m' (Str.ofString "at") = some (.int (i : Int) ta) → m' (Str.ofString "key") = some (.bytes b tb) → m' (Str.ofString "far") = some (.int far tf) →  Q .next { s with heap := h', toks := tk' }) :
  wpAny (model Challenge.rw_xw0260_01.row.prog w) (callerA.deeper (envOfC (Str.ofString "law") lawScope L fa cd)) (execs ((lawBody.drop 27).take 1) (envOfC (Str.ofString "law") lawScope L fa cd)) Q (fun _ _ => False) s := by
  revert X; k_fill; intro X
  rw [show (lawBody.drop 27).take 1 = [_] from rfl]
  rw [show lawScope = { kind := _, names := _, isGenerator := _, isCoroutine := _, more := _ } from rfl]
  obtain ⟨f1, f2, f3, f4, f5, f6, f7, f8, f9⟩ := hF
  obtain ⟨n1, n2, n3, n4⟩ := hN
  have hkl : kvs.length ≤ 7 := by rw [hK.length]; exact hn
  k_steps
  obtain ⟨far, e9, g1, g2⟩ := far_ok v
  refine' hret _ _ _ far _ g1 g2 ?hF ?hN ?h1 ?h2 ?h3 ?h4 ?h5 ?h6
  case hF => assumption
  case hN => assumption
  case h1 => exact ⟨n1, n2, n3, n4⟩
  case h2 => exact hh
  case h3 => exact hkk
  case h4 => exact ha
  case h5 => exact hkey
  case h6 => rw [← e9]; rfl
theorem lines_57 : True := by
  k_with "m call ref" => (k_here; (with_reducible show wpAny _ _ (call (Value.ref 298) [Value.int _ _, Value.int _ _]) _ _ _); k_dflt (refine' option_c ?z9B ?z9F ?z9X ?z9N ?z9T ?z9hk ?z9hhq ?z9hhk2 ?z9hhbad ?_; (case z9B => k_asm); (case z9F => k_asm); (case z9X => k_asm); (case z9N => k_asm); (case z9T => k_asm); (case z9hk => first | exact rfl | assumption); (case z9hhq => exact log_ok (by omega) (by omega)); (case z9hhk2 => exact log_ok (by omega) (by omega)); (case z9hhbad => first | exact .inl (.inr (by omega)) | exact .inl (.inl (by omega)) | exact .inr ⟨by omega, by omega⟩); k_whole); intro r0Z hZ tkZ  FZ NZ; (try dsimp only); (try k_sweep); walk_say "BY option_c")
  trivial
set_option maxHeartbeats 4000000 in
theorem seg28 {w : World} {mean : ExcName → Option Value} {mg mb : Str → Option Value} {fa : Addr} {cd : Value} {base : Heap} {L : Addr} {m : Str → Option Value} {s : Shared} {Q : Flow → Shared → Prop} {an xr dr xp dp xi di xb db lh lk : Addr} {nv rs kvs : List Value} {hs : List (Array UInt8 × Int × Int)} {e e1 e2 : Nat} {ti : Tok} {rest : List (Addr × Obj)} {o : Obj} {ua b : Array UInt8} {q k : Int} {tb t1 t2 t3 : Tok} {i : Nat} {r : Addr} {ta tf : Tok} {far : Int} (K0 : Below callerA base [] base) (F : Fr base L s.heap m) (X : (Mine.hd.heap_39 w.params).In base) (T : Top Mine.view (looseW Mine.view []) mean mg mb base)
  (N : News base L s.heap ((lk, listOf kvs.toArray e2) :: (lh, listOf rs.toArray e1) :: (L + 1, o) :: rest)) (hl : @Ne Nat lh (L + 1)) (ll : @LT.lt Nat _ lh lk) (lL : @LT.lt Nat _ (L + 1) lk) (o1 : OffAt lh rest) (o2 : OffAt (L + 1) rest) (o3 : OffAt lk rest) (hF : Fixed w rest an nv e xr dr xp dp xi di ti xb db) (hN : Named m an xr xp xi) (hh : m (Str.ofString "heads") = some (.ref lh)) (hkk : m (Str.ofString "keys") = some (.ref lk)) (hH : HeadsIn rest rs hs) (hK : KeysAre kvs hs) (hn : hs.length ≤ 7) (hi : i < kvs.length) (r1 : kvs[i]? = some (.bytes b tb)) (K : KeyOf b ua q k) (r2 : rs[i]? = some (.ref r)) (r3 : (r, tripleObj ua t1 (0 - q) t2 (0 - k) t3) ∈ rest) (ha : m (Str.ofString "at") = some (.int (i : Int) ta)) (hkey : m (Str.ofString "key") = some (.bytes b tb)) (g1 : 1 ≤ far) (g2 : far < 100000000000) (hfar : m (Str.ofString "far") = some (.int far tf))
  (hret : ∀ (m' : Str → Option Value) (h' : Heap) (tk' : Nat), Fr base L h' m' → News base L h' ((lk, listOf kvs.toArray e2) :: (lh, listOf rs.toArray e1) :: (L + 1, o) :: rest) → Named m' an xr xp xi → m' (Str.ofString "heads") = some (.ref lh) → m' (Str.ofString "keys") = some (.ref lk) → m' (Str.ofString "at") = some (.int (i : Int) ta) → m' (Str.ofString "key") = some (.bytes b tb) →  Q .next { s with heap := h', toks := tk' }) :
  wpAny (model Challenge.rw_xw0260_01.row.prog w) (callerA.deeper (envOfC (Str.ofString "law") lawScope L fa cd)) (execs ((lawBody.drop 28).take 2) (envOfC (Str.ofString "law") lawScope L fa cd)) Q (fun _ _ => False) s := by
  revert X; k_fill; intro X
  rw [show (lawBody.drop 28).take 2 = [_, _] from rfl]
  rw [show lawScope = { kind := _, names := _, isGenerator := _, isCoroutine := _, more := _ } from rfl]
  obtain ⟨f1, f2, f3, f4, f5, f6, f7, f8, f9⟩ := hF
  obtain ⟨n1, n2, n3, n4⟩ := hN
  have hkl : kvs.length ≤ 7 := by rw [hK.length]; exact hn
  k_steps
  refine' hret _ _ _ ?hF ?hN ?h1 ?h2 ?h3 ?h4 ?h5
  case hF => assumption
  case hN => assumption
  case h1 => exact ⟨n1, n2, n3, n4⟩
  case h2 => exact hh
  case h3 => exact hkk
  case h4 => exact ha
  case h5 => exact hkey

set_option maxHeartbeats 4000000 in
theorem seg30 {w : World} {mean : ExcName → Option Value} {mg mb : Str → Option Value} {fa : Addr} {cd : Value} {base : Heap} {L : Addr} {m : Str → Option Value} {s : Shared} {Q : Flow → Shared → Prop} {an xr dr xp dp xi di xb db lh lk : Addr} {nv rs kvs : List Value} {hs : List (Array UInt8 × Int × Int)} {e e1 e2 : Nat} {ti : Tok} {rest : List (Addr × Obj)} {o : Obj} {v : Int} {tv : Tok} {ua b : Array UInt8} {q k : Int} {tb t1 t2 t3 : Tok} {i : Nat} {r : Addr} {ta : Tok} (K0 : Below callerA base [] base) (F : Fr base L s.heap m) (X : (Mine.hd.heap_39 w.params).In base) (T : Top Mine.view (looseW Mine.view []) mean mg mb base)
  (N : News base L s.heap ((lk, listOf kvs.toArray e2) :: (lh, listOf rs.toArray e1) :: (L + 1, o) :: rest)) (hl : @Ne Nat lh (L + 1)) (ll : @LT.lt Nat _ lh lk) (lL : @LT.lt Nat _ (L + 1) lk) (o1 : OffAt lh rest) (o2 : OffAt (L + 1) rest) (o3 : OffAt lk rest) (hF : Fixed w rest an nv e xr dr xp dp xi di ti xb db) (hN : Named m an xr xp xi) (hh : m (Str.ofString "heads") = some (.ref lh)) (hkk : m (Str.ofString "keys") = some (.ref lk)) (hH : HeadsIn rest rs hs) (hK : KeysAre kvs hs) (hn : hs.length ≤ 7) (hcell : o.data = .cell (some (.int v tv))) (v0 : 0 ≤ v) (v1 : v < 1100000) (hi : i < kvs.length) (r1 : kvs[i]? = some (.bytes b tb)) (K : KeyOf b ua q k) (r2 : rs[i]? = some (.ref r)) (r3 : (r, tripleObj ua t1 (0 - q) t2 (0 - k) t3) ∈ rest) (ha : m (Str.ofString "at") = some (.int (i : Int) ta)) (hkey : m (Str.ofString "key") = some (.bytes b tb))
  (hret : ∀ (m' : Str → Option Value) (h' : Heap) (tk' : Nat) (od : Array UInt8) (to : Tok), OddOf od ua q (2 + v / 7 % 254) → Fr base L h' m' → News base L h' ((lk, listOf kvs.toArray e2) :: (lh, listOf rs.toArray e1) :: (L + 1, o) :: rest) → Named m' an xr xp xi → m' (Str.ofString "heads") = some (.ref lh) → m' (Str.ofString "keys") = some (.ref lk) → m' (Str.ofString "at") = some (.int (i : Int) ta) → m' (Str.ofString "key") = some (.bytes b tb) → m' (Str.ofString "odd") = some (.bytes od to) →  Q .next { s with heap := h', toks := tk' }) :
  wpAny (model Challenge.rw_xw0260_01.row.prog w) (callerA.deeper (envOfC (Str.ofString "law") lawScope L fa cd)) (execs ((lawBody.drop 30).take 1) (envOfC (Str.ofString "law") lawScope L fa cd)) Q (fun _ _ => False) s := by
  revert X; k_fill; intro X
  rw [show (lawBody.drop 30).take 1 = [_] from rfl]
  rw [show lawScope = { kind := _, names := _, isGenerator := _, isCoroutine := _, more := _ } from rfl]
  obtain ⟨f1, f2, f3, f4, f5, f6, f7, f8, f9⟩ := hF
  obtain ⟨n1, n2, n3, n4⟩ := hN
  have hkl : kvs.length ≤ 7 := by rw [hK.length]; exact hn
  obtain ⟨ks, hks, hb, h8, h13⟩ := K.open
  obtain ⟨us, hus⟩ : ∃ us, KBw.bInts ua = us := ⟨_, rfl⟩
  have hu5 : us.length ≤ 5 := hus ▸ K.short
  k_steps
  rename (KBw.bInts (_ ++ KBy.picked _ _ none) = _) => hA9
  rename ((((_ : UInt8).toNat : Nat) : Int) = _) => hX9
  rename News _ _ _ _ => N9
  refine' hret _ _ _ _ _ (odd_key K hus hb (by omega) (by omega) hX9 hA9) ?hF ?hN ?h1 ?h2 ?h3 ?h4 ?h5 ?h6
  case hF => assumption
  case hN => exact drop1 N9
  case h1 => exact ⟨n1, n2, n3, n4⟩
  case h2 => exact hh
  case h3 => exact hkk
  case h4 => exact ha
  case h5 => exact hkey
  case h6 => rfl
theorem lines_58 : True := by
  k_with "m call ref" => (k_here; (with_reducible show wpAny _ _ (call (Value.ref 131) [Value.bytes _ _]) _ _ _); k_dflt (refine' user_odd ?z9B ?z9F ?z9X ?z9N ?z9T ?z9hk ?z9hK ?z9hd ?z9hu ?_; (case z9B => k_asm); (case z9F => k_asm); (case z9X => k_asm); (case z9N => k_asm); (case z9T => k_asm); (case z9hk => first | exact rfl | assumption); (case z9hK => with_reducible assumption); (case z9hd => ktr_room); (case z9hu => ktr_units); k_whole); intro r0Z hZ tkZ  FZ NZ; (try dsimp only); (try k_sweep); walk_say "BY user_odd")
  k_with "m call ref" => (k_here; (with_reducible show wpAny _ _ (call (Value.ref 138) [Value.bytes _ _]) _ _ _); k_dflt (refine' tag_odd ?z9B ?z9F ?z9X ?z9N ?z9T ?z9hk ?z9hK ?z9hd ?z9hu ?_; (case z9B => k_asm); (case z9F => k_asm); (case z9X => k_asm); (case z9N => k_asm); (case z9T => k_asm); (case z9hk => first | exact rfl | assumption); (case z9hK => with_reducible assumption); (case z9hd => ktr_room); (case z9hu => ktr_units); k_whole); intro r0Z hZ tkZ  FZ NZ; (try dsimp only); (try k_sweep); walk_say "BY tag_odd")
  k_with "m call ref" => (k_here; (with_reducible show wpAny _ _ (call (Value.ref 124) [Value.bytes _ _]) _ _ _); k_dflt (refine' split_odd ?z9B ?z9F ?z9X ?z9N ?z9T ?z9hk ?z9hK ?z9hd ?z9hu ?_; (case z9B => k_asm); (case z9F => k_asm); (case z9X => k_asm); (case z9N => k_asm); (case z9T => k_asm); (case z9hk => first | exact rfl | assumption); (case z9hK => with_reducible assumption); (case z9hd => ktr_room); (case z9hu => ktr_units); k_whole); intro eZ tZ vsZ gZ hZ tkZ FGZ SZ RZ UZ; (try dsimp only at SZ RZ UZ ⊢); walk_say "BY split_odd")
  trivial
set_option maxHeartbeats 4000000 in
theorem seg31 {w : World} {mean : ExcName → Option Value} {mg mb : Str → Option Value} {fa : Addr} {cd : Value} {base : Heap} {L : Addr} {m : Str → Option Value} {s : Shared} {Q : Flow → Shared → Prop} {an xr dr xp dp xi di xb db lh lk : Addr} {nv rs kvs : List Value} {hs : List (Array UInt8 × Int × Int)} {e e1 e2 : Nat} {ti : Tok} {rest : List (Addr × Obj)} {o : Obj} {v : Int} {tv : Tok} {ua b : Array UInt8} {q k : Int} {tb t1 t2 t3 : Tok} {i : Nat} {r : Addr} {ta : Tok} {od : Array UInt8} {to : Tok} (K0 : Below callerA base [] base) (F : Fr base L s.heap m) (X : (Mine.hd.heap_39 w.params).In base) (T : Top Mine.view (looseW Mine.view []) mean mg mb base)
  (N : News base L s.heap ((lk, listOf kvs.toArray e2) :: (lh, listOf rs.toArray e1) :: (L + 1, o) :: rest)) (hl : @Ne Nat lh (L + 1)) (ll : @LT.lt Nat _ lh lk) (lL : @LT.lt Nat _ (L + 1) lk) (o1 : OffAt lh rest) (o2 : OffAt (L + 1) rest) (o3 : OffAt lk rest) (hF : Fixed w rest an nv e xr dr xp dp xi di ti xb db) (hN : Named m an xr xp xi) (hh : m (Str.ofString "heads") = some (.ref lh)) (hkk : m (Str.ofString "keys") = some (.ref lk)) (hH : HeadsIn rest rs hs) (hK : KeysAre kvs hs) (hn : hs.length ≤ 7) (hcell : o.data = .cell (some (.int v tv))) (v0 : 0 ≤ v) (v1 : v < 1100000) (hi : i < kvs.length) (r1 : kvs[i]? = some (.bytes b tb)) (K : KeyOf b ua q k) (r2 : rs[i]? = some (.ref r)) (r3 : (r, tripleObj ua t1 (0 - q) t2 (0 - k) t3) ∈ rest) (ha : m (Str.ofString "at") = some (.int (i : Int) ta)) (hkey : m (Str.ofString "key") = some (.bytes b tb)) (hodd : m (Str.ofString "odd") = some (.bytes od to)) (KO : OddOf od ua q (2 + v / 7 % 254))
  (hret : ∀ (m' : Str → Option Value) (h' : Heap) (tk' : Nat), Fr base L h' m' → News base L h' ((lk, listOf kvs.toArray e2) :: (lh, listOf rs.toArray e1) :: (L + 1, o) :: rest) → Named m' an xr xp xi → m' (Str.ofString "heads") = some (.ref lh) → m' (Str.ofString "keys") = some (.ref lk) → m' (Str.ofString "at") = some (.int (i : Int) ta) → m' (Str.ofString "key") = some (.bytes b tb) → m' (Str.ofString "odd") = some (.bytes od to) →  Q .next { s with heap := h', toks := tk' }) :
  wpAny (model Challenge.rw_xw0260_01.row.prog w) (callerA.deeper (envOfC (Str.ofString "law") lawScope L fa cd)) (execs ((lawBody.drop 31).take 1) (envOfC (Str.ofString "law") lawScope L fa cd)) Q (fun _ _ => False) s := by
  revert X; k_fill; intro X
  rw [show (lawBody.drop 31).take 1 = [_] from rfl]
  rw [show lawScope = { kind := _, names := _, isGenerator := _, isCoroutine := _, more := _ } from rfl]
  obtain ⟨f1, f2, f3, f4, f5, f6, f7, f8, f9⟩ := hF
  obtain ⟨n1, n2, n3, n4⟩ := hN
  have hkl : kvs.length ≤ 7 := by rw [hK.length]; exact hn
  k_steps
  all_goals (first
    | (exfalso; (rename (_ ≠ _) => hb9); exact hb9 rfl)
    | (exfalso; (rename _ = true => hb9); exact bytes_ne hb9)
    | (exfalso; omega)
    | skip)
  refine' hret _ _ _ ?hF ?hN ?h1 ?h2 ?h3 ?h4 ?h5 ?h6
  case hF => assumption
  case hN => assumption
  case h1 => exact ⟨n1, n2, n3, n4⟩
  case h2 => exact hh
  case h3 => exact hkk
  case h4 => exact ha
  case h5 => exact hkey
  case h6 => exact hodd

set_option maxHeartbeats 4000000 in
theorem seg32 {w : World} {mean : ExcName → Option Value} {mg mb : Str → Option Value} {fa : Addr} {cd : Value} {base : Heap} {L : Addr} {m : Str → Option Value} {s : Shared} {Q : Flow → Shared → Prop} {an xr dr xp dp xi di xb db lh lk : Addr} {nv rs kvs : List Value} {hs : List (Array UInt8 × Int × Int)} {e e1 e2 : Nat} {ti : Tok} {rest : List (Addr × Obj)} {o : Obj} {v : Int} {tv : Tok} {ua b : Array UInt8} {q k : Int} {tb t1 t2 t3 : Tok} {i : Nat} {r : Addr} {ta : Tok} {od : Array UInt8} {to : Tok} (K0 : Below callerA base [] base) (F : Fr base L s.heap m) (X : (Mine.hd.heap_39 w.params).In base) (T : Top Mine.view (looseW Mine.view []) mean mg mb base)
  (N : News base L s.heap ((lk, listOf kvs.toArray e2) :: (lh, listOf rs.toArray e1) :: (L + 1, o) :: rest)) (hl : @Ne Nat lh (L + 1)) (ll : @LT.lt Nat _ lh lk) (lL : @LT.lt Nat _ (L + 1) lk) (o1 : OffAt lh rest) (o2 : OffAt (L + 1) rest) (o3 : OffAt lk rest) (hF : Fixed w rest an nv e xr dr xp dp xi di ti xb db) (hN : Named m an xr xp xi) (hh : m (Str.ofString "heads") = some (.ref lh)) (hkk : m (Str.ofString "keys") = some (.ref lk)) (hH : HeadsIn rest rs hs) (hK : KeysAre kvs hs) (hn : hs.length ≤ 7) (hcell : o.data = .cell (some (.int v tv))) (v0 : 0 ≤ v) (v1 : v < 1100000) (hi : i < kvs.length) (r1 : kvs[i]? = some (.bytes b tb)) (K : KeyOf b ua q k) (r2 : rs[i]? = some (.ref r)) (r3 : (r, tripleObj ua t1 (0 - q) t2 (0 - k) t3) ∈ rest) (ha : m (Str.ofString "at") = some (.int (i : Int) ta)) (hkey : m (Str.ofString "key") = some (.bytes b tb)) (hodd : m (Str.ofString "odd") = some (.bytes od to)) (KO : OddOf od ua q (2 + v / 7 % 254))
  (hret : ∀ (m' : Str → Option Value) (h' : Heap) (tk' : Nat) (tr : Tok), Fr base L h' m' → News base L h' ((lk, listOf kvs.toArray e2) :: (lh, listOf rs.toArray e1) :: (L + 1, o) :: rest) → Named m' an xr xp xi → m' (Str.ofString "heads") = some (.ref lh) → m' (Str.ofString "keys") = some (.ref lk) → m' (Str.ofString "at") = some (.int (i : Int) ta) → m' (Str.ofString "key") = some (.bytes b tb) → m' (Str.ofString "refused") = some (.int 1 tr) →  Q .next { s with heap := h', toks := tk' }) :
  wpAny (model Challenge.rw_xw0260_01.row.prog w) (callerA.deeper (envOfC (Str.ofString "law") lawScope L fa cd)) (execs ((lawBody.drop 32).take 2) (envOfC (Str.ofString "law") lawScope L fa cd)) Q (fun _ _ => False) s := by
  revert X; k_fill; intro X
  rw [show (lawBody.drop 32).take 2 = [_, _] from rfl]
  rw [show lawScope = { kind := _, names := _, isGenerator := _, isCoroutine := _, more := _ } from rfl]
  obtain ⟨f1, f2, f3, f4, f5, f6, f7, f8, f9⟩ := hF
  obtain ⟨n1, n2, n3, n4⟩ := hN
  have hkl : kvs.length ≤ 7 := by rw [hK.length]; exact hn
  k_steps
  refine wpAny_Try_except ?_
  k_steps
  refine' caught_X K0 ?hF ?hU ?hR ?hX ?hT ?hx ?hq ?hk rfl rfl (by decide) ?hE
  case hF => assumption
  case hU => assumption
  case hR => assumption
  case hX => exact X
  case hT => exact topRead_of T
  case hx => k_is
  case hq => kts_isx
  case hE => passes_own
  case hk =>
    intro h' F' N'
    k_steps
    refine' hret _ _ _ _ ?hF ?hN ?h1 ?h2 ?h3 ?h4 ?h5 ?h6
    case hF => assumption
    case hN => assumption
    case h1 => exact ⟨n1, n2, n3, n4⟩
    case h2 => exact hh
    case h3 => exact hkk
    case h4 => exact ha
    case h5 => exact hkey
    case h6 => rfl

theorem lines_59 : True := by
  k_with "m call ref" => (k_here; (with_reducible show wpAny _ _ (call (Value.ref 305) [Value.ref _, Value.bytes _ _, Value.bytes _ _]) _ _ _); k_dflt (refine' corrupt_c ?z9B ?z9F ?z9X ?z9N ?z9T ?z9hk ?z9hm1 ?z9hm2 ?z9hm3 ?z9hm4 ?z9hhz ?z9hK ?_; (case z9B => k_asm); (case z9F => k_asm); (case z9X => k_asm); (case z9N => k_asm); (case z9T => k_asm); (case z9hk => first | exact rfl | assumption); (case z9hm1 => k_mem); (case z9hm2 => k_mem); (case z9hm3 => k_mem); (case z9hm4 => k_mem); (case z9hhz => exact short_size (by omega) (by omega)); (case z9hK => with_reducible assumption); k_whole); intro r0Z hZ tkZ  FZ NZ; (try dsimp only); (try k_sweep); walk_say "BY corrupt_c")
  trivial
set_option maxHeartbeats 4000000 in
theorem seg34 {w : World} {mean : ExcName → Option Value} {mg mb : Str → Option Value} {fa : Addr} {cd : Value} {base : Heap} {L : Addr} {m : Str → Option Value} {s : Shared} {Q : Flow → Shared → Prop} {an xr dr xp dp xi di xb db lh lk : Addr} {nv rs kvs : List Value} {hs : List (Array UInt8 × Int × Int)} {e e1 e2 : Nat} {ti : Tok} {rest : List (Addr × Obj)} {o : Obj} {v : Int} {tv : Tok} {ua b : Array UInt8} {q k : Int} {tb t1 t2 t3 : Tok} {i : Nat} {r : Addr} {ta : Tok} {tr : Tok} (K0 : Below callerA base [] base) (F : Fr base L s.heap m) (X : (Mine.hd.heap_39 w.params).In base) (T : Top Mine.view (looseW Mine.view []) mean mg mb base)
  (N : News base L s.heap ((lk, listOf kvs.toArray e2) :: (lh, listOf rs.toArray e1) :: (L + 1, o) :: rest)) (hl : @Ne Nat lh (L + 1)) (ll : @LT.lt Nat _ lh lk) (lL : @LT.lt Nat _ (L + 1) lk) (o1 : OffAt lh rest) (o2 : OffAt (L + 1) rest) (o3 : OffAt lk rest) (hF : Fixed w rest an nv e xr dr xp dp xi di ti xb db) (hN : Named m an xr xp xi) (hh : m (Str.ofString "heads") = some (.ref lh)) (hkk : m (Str.ofString "keys") = some (.ref lk)) (hH : HeadsIn rest rs hs) (hK : KeysAre kvs hs) (hn : hs.length ≤ 7) (hcell : o.data = .cell (some (.int v tv))) (v0 : 0 ≤ v) (v1 : v < 1100000) (hi : i < kvs.length) (r1 : kvs[i]? = some (.bytes b tb)) (K : KeyOf b ua q k) (r2 : rs[i]? = some (.ref r)) (r3 : (r, tripleObj ua t1 (0 - q) t2 (0 - k) t3) ∈ rest) (ha : m (Str.ofString "at") = some (.int (i : Int) ta)) (hkey : m (Str.ofString "key") = some (.bytes b tb)) (hrefd : m (Str.ofString "refused") = some (.int 1 tr))
  (hret : ∀ (m' : Str → Option Value) (h' : Heap) (tk' : Nat), Fr base L h' m' → News base L h' ((lk, listOf kvs.toArray e2) :: (lh, listOf rs.toArray e1) :: (L + 1, o) :: rest) → Named m' an xr xp xi → m' (Str.ofString "heads") = some (.ref lh) → m' (Str.ofString "keys") = some (.ref lk) → m' (Str.ofString "at") = some (.int (i : Int) ta) → m' (Str.ofString "key") = some (.bytes b tb) → m' (Str.ofString "refused") = some (.int 1 tr) →  Q .next { s with heap := h', toks := tk' }) :
  wpAny (model Challenge.rw_xw0260_01.row.prog w) (callerA.deeper (envOfC (Str.ofString "law") lawScope L fa cd)) (execs ((lawBody.drop 34).take 1) (envOfC (Str.ofString "law") lawScope L fa cd)) Q (fun _ _ => False) s := by
  revert X; k_fill; intro X
  rw [show (lawBody.drop 34).take 1 = [_] from rfl]
  rw [show lawScope = { kind := _, names := _, isGenerator := _, isCoroutine := _, more := _ } from rfl]
  obtain ⟨f1, f2, f3, f4, f5, f6, f7, f8, f9⟩ := hF
  obtain ⟨n1, n2, n3, n4⟩ := hN
  have hkl : kvs.length ≤ 7 := by rw [hK.length]; exact hn
  k_steps
  (with_unfolding_all refine' iter_tupTurns (vs := [_, _, _]) ?ia ?iF ?iN ?im ?ic ?id ?iq)
  case ia => exact rfl
  case iF => assumption
  case iN => assumption
  case im => k_mem
  case ic => exact rfl
  case id => exact rfl
  intro I7 l7
  refine' items_same (R := fun m => Named m an xr xp xi ∧ m (Str.ofString "heads") = some (.ref lh) ∧ m (Str.ofString "keys") = some (.ref lk) ∧ m (Str.ofString "at") = some (.int (i : Int) ta) ∧ m (Str.ofString "key") = some (.bytes b tb) ∧ m (Str.ofString "refused") = some (.int 1 tr)) ?turn2 ?done2 ?init2 ?off2
  case init2 => exact ⟨⟨n1, n2, n3, n4⟩, hh, hkk, ha, hkey, hrefd⟩
  case off2 => exact l7
  case done2 =>
    intro m7 h7 tk7 p F7 N7
    obtain ⟨p1, p2, p3, p4, p5, p6⟩ := p
    k_steps
    exact hret m7 h7 tk7 F7 (drop1 N7) p1 p2 p3 p4 p5 p6
  intro g vv m7 h7 tk7 ob7 I8 hv7 hp7 o7 F7 hc7 N7
  obtain ⟨⟨q1, q2, q3, q4⟩, q5, q6, q7, q8, q9⟩ := hp7
  obtain ⟨z, tz, rfl, z0, z7⟩ : ∃ z tz, vv = Value.int z tz ∧ 0 ≤ z ∧ z ≤ 7 := by
    match g, hv7 with
    | 0, e => cases e; exact ⟨_, _, rfl, by decide, by decide⟩
    | 1, e => cases e; exact ⟨_, _, rfl, by decide, by decide⟩
    | 2, e => cases e; exact ⟨_, _, rfl, by omega, by omega⟩
    | (k + 3), e => exact absurd e (by simp)
  k_steps
  all_goals (first
    | (exfalso; (rename (_ ≠ _) => hb9); exact hb9 rfl)
    | (exfalso; (rename _ = true => hb9); exact bytes_ne hb9)
    | (exfalso; omega)
    | skip)
  refine' unr_same ?hF ?hN ?hs o7 ?ha ?hr
  case hF => assumption
  case hN => assumption
  case hs => (intro p9 h9; first | exact h9 | exact .tail _ h9 | exact .tail _ (.tail _ h9) | exact .tail _ (.tail _ (.tail _ h9)))
  case ha => exact .head _
  case hr => exact ⟨⟨q1, q2, q3, q4⟩, q5, q6, q7, q8, q9⟩

set_option maxHeartbeats 4000000 in
theorem seg35 {w : World} {mean : ExcName → Option Value} {mg mb : Str → Option Value} {fa : Addr} {cd : Value} {base : Heap} {L : Addr} {m : Str → Option Value} {s : Shared} {Q : Flow → Shared → Prop} {an xr dr xp dp xi di xb db lh lk : Addr} {nv rs kvs : List Value} {hs : List (Array UInt8 × Int × Int)} {e e1 e2 : Nat} {ti : Tok} {rest : List (Addr × Obj)} {o : Obj} {v : Int} {tv : Tok} {ua b : Array UInt8} {q k : Int} {tb t1 t2 t3 : Tok} {i : Nat} {r : Addr} {ta : Tok} {tr : Tok} (K0 : Below callerA base [] base) (F : Fr base L s.heap m) (X : (Mine.hd.heap_39 w.params).In base) (T : Top Mine.view (looseW Mine.view []) mean mg mb base)
  (N : News base L s.heap ((lk, listOf kvs.toArray e2) :: (lh, listOf rs.toArray e1) :: (L + 1, o) :: rest)) (hl : @Ne Nat lh (L + 1)) (ll : @LT.lt Nat _ lh lk) (lL : @LT.lt Nat _ (L + 1) lk) (o1 : OffAt lh rest) (o2 : OffAt (L + 1) rest) (o3 : OffAt lk rest) (hF : Fixed w rest an nv e xr dr xp dp xi di ti xb db) (hN : Named m an xr xp xi) (hh : m (Str.ofString "heads") = some (.ref lh)) (hkk : m (Str.ofString "keys") = some (.ref lk)) (hH : HeadsIn rest rs hs) (hK : KeysAre kvs hs) (hn : hs.length ≤ 7) (hcell : o.data = .cell (some (.int v tv))) (v0 : 0 ≤ v) (v1 : v < 1100000) (hi : i < kvs.length) (r1 : kvs[i]? = some (.bytes b tb)) (K : KeyOf b ua q k) (r2 : rs[i]? = some (.ref r)) (r3 : (r, tripleObj ua t1 (0 - q) t2 (0 - k) t3) ∈ rest) (ha : m (Str.ofString "at") = some (.int (i : Int) ta)) (hkey : m (Str.ofString "key") = some (.bytes b tb)) (hrefd : m (Str.ofString "refused") = some (.int 1 tr))
  (hret : ∀ (m' : Str → Option Value) (h' : Heap) (tk' : Nat), Fr base L h' m' → Q (.ret (.bool true)) { s with heap := h', toks := tk' }) :
  wpAny (model Challenge.rw_xw0260_01.row.prog w) (callerA.deeper (envOfC (Str.ofString "law") lawScope L fa cd)) (execs ((lawBody.drop 35).take 2) (envOfC (Str.ofString "law") lawScope L fa cd)) Q (fun _ _ => False) s := by
  revert X; k_fill; intro X
  rw [show (lawBody.drop 35).take 2 = [_, _] from rfl]
  rw [show lawScope = { kind := _, names := _, isGenerator := _, isCoroutine := _, more := _ } from rfl]
  obtain ⟨f1, f2, f3, f4, f5, f6, f7, f8, f9⟩ := hF
  obtain ⟨n1, n2, n3, n4⟩ := hN
  have hkl : kvs.length ≤ 7 := by rw [hK.length]; exact hn
  k_steps
  refine' loop_same (R := fun m => Named m an xr xp xi ∧ m (Str.ofString "heads") = some (.ref lh) ∧ m (Str.ofString "keys") = some (.ref lk) ∧ m (Str.ofString "at") = some (.int (i : Int) ta) ∧ m (Str.ofString "key") = some (.bytes b tb) ∧ m (Str.ofString "refused") = some (.int 1 tr)) ?turn0 ?done0 ?init0 ?off0
  case init0 => exact ⟨⟨n1, n2, n3, n4⟩, hh, hkk, ha, hkey, hrefd⟩
  case off0 => assumption
  case done0 =>
    intro m9 h9 tk9 p F9 N9
    obtain ⟨p1, p2, p3, p4, p5, p6⟩ := p
    k_steps
    exact hret _ _ _ F9
  intro j m9 t9 h9 tk9 I9 hj9 hp o9 F9 N9
  obtain ⟨⟨q1, q2, q3, q4⟩, q5, q6, q7, q8, q9⟩ := hp
  obtain ⟨uc, sc, kc, bc, tc, rc, tc1, tc2, tc3, ic1, Kc, ic2, ic3⟩ := row_at hK hH j hj9
  k_steps
  all_goals (first
    | (exfalso; (rename (_ ≠ _) => hb9); exact hb9 rfl)
    | (exfalso; (rename _ = true => hb9); exact bytes_ne hb9)
    | (exfalso; omega)
    | skip)
  refine' post_same ?hF ?hN ?hs o9 ?hr
  case hF => assumption
  case hN => assumption
  case hs => (intro p9 h9; first | exact h9 | exact .tail _ h9 | exact .tail _ (.tail _ h9) | exact .tail _ (.tail _ (.tail _ h9)))
  case hr => exact ⟨⟨q1, q2, q3, q4⟩, q5, q6, q7, q8, q9⟩

end Mine
end
section
open PySem PySem.W PySem.Calls PyProof.Rows
namespace Mine
theorem Fixed.sub {w : World} {fx rest : List (Addr × Obj)} {an : Addr} {nv : List Value} {e : Nat} {xr dr xp dp xi di : Addr} {ti : Tok} {xb db : Addr} (h : ∀ p ∈ fx, p ∈ rest) (F : Fixed w fx an nv e xr dr xp dp xi di ti xb db) : Fixed w rest an nv e xr dr xp dp xi di ti xb db := by
  obtain ⟨f1, f2, f3, f4, f5, f6, f7, f8, f9⟩ := F
  exact ⟨h _ f1, h _ f2, h _ f3, h _ f4, h _ f5, h _ f6, h _ f7, h _ f8, h _ f9⟩
set_option maxHeartbeats 4000000 in
theorem law_all {w : World} {mean : ExcName → Option Value} {mg mb : Str → Option Value} {fa : Addr} {cd : Value} {base : Heap} {L : Addr} {m : Str → Option Value} {s : Shared} {Q : Flow → Shared → Prop} {l : Addr} {vs : List Value} {ns : List Int} {o : Obj} {pos₀ : Pos}
    (K0 : Below callerA base [] base) (F : Fr base L s.heap m) (X : (Mine.hd.heap_39 w.params).In base) (T : Top Mine.view (looseW Mine.view []) mean mg mb base)
    (N : News base L s.heap [(L + 1, o)]) (hc : o.data = .cell none) (hl : base.IsList l vs.toArray) (hi : IntsAre vs ns) (hn : ns.length ≤ 63) (hm : m (Str.ofString "script") = some (.ref l))
    (hret : ∀ (m' : Str → Option Value) (h' : Heap) (tk' : Nat), Fr base L h' m' → Q (.ret (.bool true)) { s with heap := h', toks := tk' }) :
    wpX (model Challenge.rw_xw0260_01.row.prog w) (under pos₀ lawBody (envOfC (Str.ofString "law") lawScope L fa cd)) (execs (lawBody.drop 0) (envOfC (Str.ofString "law") lawScope L fa cd)) Q (fun _ _ => False) s := by
  have hin := under_in pos₀ lawBody (envOfC (Str.ofString "law") lawScope L fa cd)
  refine execs_cut 0 7 (wpX_of hin (seg1 K0 F X T N hc hl hi hn hm ?_))
  intro m1 h1 tk1 an xr dr xp dp xi di xb db lh nv nums e ti t1 fx F1 nm1 hh1 hu1 hi1 hk1 N1 hl1 o1 o2 hF1
  refine execs_cut 7 1 (wpX_of hin (seg2 K0 F1 X T N1 hl1 o1 o2 hF1 nm1 hh1 hu1 hi1 hk1 ?_))
  intro i2 m2 h2 tk2 news2 hi2 hp2 F2 N2
  obtain ⟨rs, hs, e1, rest, u2, t2, rfl, p1, p2, p3, p4, p5, p6, nm2, hh2, hu2, hu5⟩ := hp2
  have hF2 := hF1.sub p6
  refine execs_cut 8 4 (wpX_of hin (seg3 K0 F2 X T N2 hc hl1 p1 p2 hF2 nm2 hh2 hi1 hk1 ?_))
  intro m3 h3 tk3 lk o' v tv F3 N3 hcell v0 v1 ll lL o3 nm3 hh3 hk3
  have hn7 : hs.length ≤ 7 := by omega
  refine execs_cut 12 1 (wpX_of hin (seg4 K0 F3 X T N3 hl1 ll lL p1 p2 o3 hF2 nm3 hh3 hk3 p4 p5 hn7 ?_))
  intro m4 h4 tk4 kvs e2 F4 N4 hK nm4 hh4 hk4
  refine execs_cut 13 1 (wpX_of hin (seg5 K0 F4 X T N4 hl1 ll lL p1 p2 o3 hF2 nm4 hh4 hk4 p4 hK hn7 ?_))
  intro m5 h5 tk5 F5 N5 nm5 hh5 hk5
  refine execs_cut 14 2 (wpX_of hin (seg6 K0 F5 X T N5 hl1 ll lL p1 p2 o3 hF2 nm5 hh5 hk5 p4 hK hn7 hcell v0 v1 (by omega) ?_))
  intro m6 h6 tk6 ua q k b tb r t1' t2' t3' ta i F6 N6 nm6 hh6 hk6 ha6 hy6 hi6 r1 K r2 r3
  have hk1' : 1 ≤ kvs.length := by omega
  refine execs_cut 16 1 (seg16 K0 F6 X T N6 hl1 ll lL p1 p2 o3 hF2 nm6 hh6 hk6 p4 hK hn7 hi6 r1 K r2 r3 ha6 hy6 ?_)
  intro m7 h7 tk7 la F7 N7 l7 nm7 hh7 hk7 ha7 hy7 hle7
  refine execs_cut 17 4 (wpX_of hin (seg7 K0 F7 X T N7 hl1 ll lL p1 p2 o3 hF2 nm7 hh7 hk7 p4 hK hn7 hi6 r1 K r2 r3 ha7 hy7 hle7 l7 hk1' ?_))
  intro m8 h8 tk8 ls lg y1 y2 y3 x1 x2 x3 e3 F8 N8 lG lS nm8 hh8 hk8 ha8 hy8 hle8 hg8 hs8
  have hg : ∀ v ∈ [Value.bytes b x1, Value.bytes b x2, Value.bytes b x3], ∃ t, v = Value.bytes b t := by
    intro v hv
    simp only [List.mem_cons, List.not_mem_nil, or_false] at hv
    rcases hv with rfl | rfl | rfl <;> exact ⟨_, rfl⟩
  refine execs_cut 21 1 (seg21 (gv := [Value.bytes b x1, Value.bytes b x2, Value.bytes b x3]) K0 F8 X T N8 hl1 ll lL p1 p2 o3 hF2 nm8 hh8 hk8 p4 hK hn7 hi6 r1 K r2 r3 ha8 hy8 hle8 hg8 hs8 l7 lG lS hg ?_)
  intro m9 h9 tk9 ln F9 N9 lN nm9 hh9 hk9 ha9 hy9 hle9 hg9 hs9 hn9
  refine execs_cut 22 1 (wpX_of hin (seg22 K0 F9 X T N9 hl1 ll lL p1 p2 o3 hF2 nm9 hh9 hk9 p4 hK hn7 hi6 r1 K r2 r3 ha9 hy9 hle9 hg9 hs9 l7 lG lS hg lN hn9 rfl ?_))
  intro m10 h10 tk10 gv e4 F10 N10 hg10' hgl nm10 hh10 hk10 ha10 hy10 hle10 hg10 hs10 hn10
  have lG' : AllLt lg ((la, baObj b) :: (lk, listOf kvs.toArray e2) :: (lh, listOf rs.toArray e1) :: (L + 1, o') :: rest) := lG
  have lS' : AllLt ls ((lg, listOf gv.toArray e4) :: (la, baObj b) :: (lk, listOf kvs.toArray e2) :: (lh, listOf rs.toArray e1) :: (L + 1, o') :: rest) := lS
  have lN' : AllLt ln ((ls, tripleObj ua y1 q y2 k y3) :: (lg, listOf gv.toArray e4) :: (la, baObj b) :: (lk, listOf kvs.toArray e2) :: (lh, listOf rs.toArray e1) :: (L + 1, o') :: rest) := lN
  refine execs_cut 23 1 (wpX_of hin (seg23 K0 F10 X T N10 hl1 ll lL p1 p2 o3 hF2 nm10 hh10 hk10 p4 hK hn7 hi6 r1 K r2 r3 ha10 hy10 hle10 hg10 hs10 l7 lG' lS' hg10' lN' hn10 ?_))
  intro m11 h11 tk11 F11 N11 nm11 hh11 hk11 ha11 hy11 hg11 hs11 hn11
  have lN2 : AllLt ln ((ls, tripleObj ua y1 q y2 k y3) :: (lg, listOf gv.toArray e4) :: (lk, listOf kvs.toArray e2) :: (lh, listOf rs.toArray e1) :: (L + 1, o') :: rest) := ⟨lN.1, lN.2.1, lN.2.2.2⟩
  have lS2 : AllLt ls ((lg, listOf gv.toArray e4) :: (lk, listOf kvs.toArray e2) :: (lh, listOf rs.toArray e1) :: (L + 1, o') :: rest) := ⟨lS.1, lS.2.2⟩
  have lG2 : AllLt lg ((lk, listOf kvs.toArray e2) :: (lh, listOf rs.toArray e1) :: (L + 1, o') :: rest) := lG.2
  refine execs_cut 24 1 (seg24 K0 F11 X T N11 hl1 ll lL p1 p2 o3 hF2 nm11 hh11 hk11 p4 hK hn7 hi6 r1 K r2 r3 ha11 hy11 hg11 hs11 hn11 lN2 ?_)
  intro m12 h12 tk12 F12 N12 nm12 hh12 hk12 ha12 hy12 hg12 hs12
  refine execs_cut 25 2 (wpX_of hin (seg25 K0 F12 X T N12 hl1 ll lL p1 p2 o3 hF2 nm12 hh12 hk12 p4 hK hn7 hi6 r1 K r2 r3 ha12 hy12 hg12 hs12 lG2 lS2 hg10' hgl ?_))
  intro m13 h13 tk13 F13 N13 nm13 hh13 hk13 ha13 hy13
  refine execs_cut 27 1 (wpX_of hin (seg27 K0 F13 X T N13 hl1 ll lL p1 p2 o3 hF2 nm13 hh13 hk13 p4 hK hn7 hcell v0 v1 hi6 r1 K r2 r3 ha13 hy13 ?_))
  intro m14 h14 tk14 far tf g1 g2 F14 N14 nm14 hh14 hk14 ha14 hy14 hf14
  refine execs_cut 28 2 (wpX_of hin (seg28 K0 F14 X T N14 hl1 ll lL p1 p2 o3 hF2 nm14 hh14 hk14 p4 hK hn7 hi6 r1 K r2 r3 ha14 hy14 g1 g2 hf14 ?_))
  intro m15 h15 tk15 F15 N15 nm15 hh15 hk15 ha15 hy15
  refine execs_cut 30 1 (wpX_of hin (seg30 K0 F15 X T N15 hl1 ll lL p1 p2 o3 hF2 nm15 hh15 hk15 p4 hK hn7 hcell v0 v1 hi6 r1 K r2 r3 ha15 hy15 ?_))
  intro m16 h16 tk16 od to KO F16 N16 nm16 hh16 hk16 ha16 hy16 ho16
  refine execs_cut 31 1 (wpX_of hin (seg31 K0 F16 X T N16 hl1 ll lL p1 p2 o3 hF2 nm16 hh16 hk16 p4 hK hn7 hcell v0 v1 hi6 r1 K r2 r3 ha16 hy16 ho16 KO ?_))
  intro m17 h17 tk17 F17 N17 nm17 hh17 hk17 ha17 hy17 ho17
  refine execs_cut 32 2 (wpX_of hin (seg32 K0 F17 X T N17 hl1 ll lL p1 p2 o3 hF2 nm17 hh17 hk17 p4 hK hn7 hcell v0 v1 hi6 r1 K r2 r3 ha17 hy17 ho17 KO ?_))
  intro m18 h18 tk18 tr F18 N18 nm18 hh18 hk18 ha18 hy18 hr18
  refine execs_cut 34 1 (wpX_of hin (seg34 K0 F18 X T N18 hl1 ll lL p1 p2 o3 hF2 nm18 hh18 hk18 p4 hK hn7 hcell v0 v1 hi6 r1 K r2 r3 ha18 hy18 hr18 ?_))
  intro m19 h19 tk19 F19 N19 nm19 hh19 hk19 ha19 hy19 hr19
  refine execs_cut 35 2 (wpX_of hin (seg35 K0 F19 X T N19 hl1 ll lL p1 p2 o3 hF2 nm19 hh19 hk19 p4 hK hn7 hcell v0 v1 hi6 r1 K r2 r3 ha19 hy19 hr19 ?_))
  intro m20 h20 tk20 F20
  exact hret m20 h20 tk20 F20

end Mine
end
section
open PySem PySem.W PySem.Calls PyProof.Rows
namespace Mine
set_option maxRecDepth 100000 in
set_option maxHeartbeats 8000000 in
theorem law_holds : PySem.Challenge.rw_xw0260_01.Holds := Mine.hd (by 
  k_fill
  intro w s₀ s₁ mg mb G Y fa o pm cd doc dV kV ho hd hcd hD hmg hg args vals as hpre hlay hrd hwl hlo
  have KX := kIn_of Y
  refine Ground.open G ?_
  intro T B D TE TW
  have e1 := hmg.symm.trans (mg_of KX T.g (by k_is))
  have e2 : fa = 310 := by cases e1; rfl
  wrow_args hpre hlay hrd hwl hlo
  have he := Dflts.none hD rfl; subst he; have he := Dflts.noKw hD; subst he
  refine wpX_mono (E := fun _ _ => False) (Q := fun v s' => v = .bool true ∧ ∃ h' tk' m', s' = { s₁ with heap := h', toks := tk' } ∧ Fr s₁.heap s₁.heap.objs.size h' m') ?goalA ?goalB (fun _ _ x => x.elim)
  case goalB =>
    rintro v s' ⟨rfl, h', tk', m', rfl, F⟩
    refine GoodW.toG ?_
    w_end
    wrow_close
  refine root_call (Top.nolimit T) ho (fd_plain hd) hcd rfl (kinds_of (by kinds_ok)) (by decide) ?_
  intro p h₁ tk cells F N Y
  cells_open Y
  refine' law_all (below_caller _) F KX T N ?hc ?hl ?hi ?hn ?hm ?hret
  case hc => assumption
  case hl => assumption
  case hi => assumption
  case hn => omega
  case hm => rfl
  case hret => exact fun m' h' tk' F' => ⟨rfl, h', tk', m', rfl, F'⟩)

end Mine
end
theorem PySem.Challenge.cw_xw0260_01_holds : PySem.Challenge.rw_xw0260_01.Holds := by
  exact Mine.law_holds
