import PyProof.Rows.All
import Wide.All
import OpenK.AllK
import Wide.FinOn
import OpenK.KDict
import PyProof.EqAt
import KE.KSortTup
import KE.KDictSum
import KE.KxBytes
import KE.KBytesCut
import KE.BytesMake
import KE.KBytesWalk
import KE.BitLaws
import Lean
import PySem.Challenge.RW_np0188_01
set_option tactic.hygienic false
set_option compiler.extract_closed false
set_option Elab.async false
set_option maxRecDepth 100000
set_option linter.all false
section F_HdR
open PySem PySem.W PySem.Spec PySem.Calls PyProof.Rows
namespace Mine
open Sem (wp)
noncomputable def dirtyIds : List String := ["bytearray.__contains__", "bytearray.__mod__", "bytearray.__rmod__", "_struct.pack_into.held", "bytearray.find.held"] ++ Builtin.Bytes.decodersThatHold
noncomputable def dirty : Code → Bool
  | .builtin id _ => dirtyIds.contains id
  | _ => false
noncomputable def CleanL (l : List (Code × Pos)) : Prop := ∀ x ∈ l, dirty x.1 = false
noncomputable def wpR {α : Type} (M : Model) (A : Around) (t : Sem α) (Q : α → Shared → Prop) (E : Value → Shared → Prop) (s : Shared) : Prop :=
  ∀ (Γ : PySem.Ctx) p, Γ.In A → dirty Γ.code = false → CleanL Γ.below → wp M Γ t (fun a _ s' => Q a s') (fun e _ s' => E e s') p s
noncomputable def codeR (M : Model) (A : Around) (c : Code) (R : Result → Shared → Prop) (s : Shared) : Prop :=
  ∀ (Γ : PySem.Ctx) p, Γ.code = c → Γ.Below A → CleanL Γ.below → wpCode M Γ R p s
section
variable {α β : Type} {M : Model} {A : Around} {E : Value → Shared → Prop} {s : Shared}
theorem wpR.of {t : Sem α} {Q : α → Shared → Prop} (h : wpAny M A t Q E s) : wpR M A t Q E s := fun Γ p hΓ _ _ => h Γ p hΓ
theorem codeR.of {c : Code} {R : Result → Shared → Prop} (h : codeAny M A c R s) : codeR M A c R s := fun Γ p hc hΓ _ => h Γ p hc hΓ
theorem wpR_pure {a : α} {Q : α → Shared → Prop} (h : Q a s) : wpR M A (pure a) Q E s := fun _ _ _ _ _ => h
theorem wpR_mono {t : Sem α} {Q Q' : α → Shared → Prop} {E' : Value → Shared → Prop} (h : wpR M A t Q E s) (hQ : ∀ a s, Q a s → Q' a s) (hE : ∀ e s, E e s → E' e s) : wpR M A t Q' E' s :=
  fun Γ p hΓ hd hb => Sem.wp_mono M Γ t (fun a _ s => hQ a s) (fun e _ s => hE e s) p s (h Γ p hΓ hd hb)
theorem wpR_bind {m : Sem α} {f : α → Sem β} {Q : β → Shared → Prop} (h : wpR M A m (fun a s' => wpR M A (f a) Q E s') E s) : wpR M A (m >>= f) Q E s := fun Γ p hΓ hd hb => by
  rw [Sem.wp_bind']
  exact Sem.wp_mono M Γ m (fun a p' s' h' => h' Γ p' hΓ hd hb) (fun _ _ _ h' => h') p s (h Γ p hΓ hd hb)
theorem wpR_bindA {m : Sem α} {f : α → Sem β} {Q : β → Shared → Prop} (h : wpAny M A m (fun a s' => wpR M A (f a) Q E s') E s) : wpR M A (m >>= f) Q E s := wpR_bind (wpR.of h)
end
theorem clean_ends {prog : Program} {w : World} {t : Sem Fin} {s : Shared} {R : Result → Shared → Prop} (hz : s.asleep)
    (h : wpR (model prog w) callerA t (fun fin s' => ∃ f, fin = .done f ∧ (R (.ok f) s' ∧ leftWithCleanup s'.gens = false)) (fun e s' => R (.error e) s' ∧ leftWithCleanup s'.gens = false) s) :
    ∃ n r s' s'', runN (denote table) prog w n s ⟨t, .builtin "claim.caller" {}, default, []⟩ = .halted (outcomeOf r) s' ∧
      schedN (denote table) prog w n (.single s ⟨t, .builtin "claim.caller" {}, default, []⟩) = .halted (outcomeOf r) s' ∧ s'.forget = s''.forget ∧ R r s'' := by
  have hw : wp (model prog w) ⟨.builtin "claim.caller" {}, none, none, [], none⟩ t (Sem.finPost (model prog w) ⟨.builtin "claim.caller" {}, none, none, [], none⟩ fun r s' => R r s' ∧ leftWithCleanup s'.gens = false) (fun e _ s' => R (.error e) s' ∧ leftWithCleanup s'.gens = false) default s := by
    refine Sem.wp_mono _ _ t ?_ (fun _ _ _ x => x) default s (h _ default caller_in (by decide +kernel) fun x hx => nomatch hx)
    rintro fin p s' ⟨f, rfl, x⟩
    exact x
  obtain ⟨n, r, s1, s2, a, b, c, d⟩ := wp_halts_full (M := model prog w) (R := R) hz hw
  exact ⟨n, r, s2, s1, b, a, c, d⟩
theorem callFromR {c : ClaimW} {tree : List Value → Sem Fin} {w : World} {s : Shared} {free : Addr → Prop} {gens : Prop} {kept : Heap → Prop} (hz : s.asleep) (hgens : s.gens = #[])
    (H : ∀ args, c.pre args = true → WData.layableAll args = true → ∀ ord : List DictEntry → List DictEntry, (∀ l, (ord l).Perm l) →
      ∃ vs s₁, layAllW c.records (classAt s.heap) w.params ord args s = some (vs, s₁) ∧
        wpR (model c.prog w) callerA (tree vs) (fun fin s' => ∃ f, fin = .done f ∧ (c.Ends s args vs s₁ (.ok f) s' ∧ s'.os = s.os ∧ AllBare s'.gens ∧ kept s'.heap))
          (fun e s' => c.Ends s args vs s₁ (.error e) s' ∧ s'.os = s.os ∧ AllBare s'.gens ∧ kept s'.heap) s₁) :
    c.CallFrom (fun vs => ⟨tree vs, .builtin "claim.caller" {}, default, []⟩) w free gens kept s := by
  intro args hpre hlay ord hord
  obtain ⟨vs, s₁, hl, hc⟩ := H args hpre hlay ord hord
  have rest := layAllW_rest _ _ _ hl
  obtain ⟨k, r, s', s'', hrun, hs, hf, hE, hos, hk⟩ := clean_ends (prog := c.prog) (w := w) (t := tree vs) (s := s₁) (R := fun r s' => c.Ends s args vs s₁ r s' ∧ s'.os = s.os ∧ kept s'.heap)
    (Shared.asleep_of_life rest.2.2.2 hz)
    (wpR_mono hc (fun fin s' ⟨f, e, h1, h2, h3, h4⟩ => ⟨f, e, ⟨h1, h2, h4⟩, leftWithCleanup_false_of_bare h3⟩) fun e s' ⟨h1, h2, h3, h4⟩ => ⟨⟨h1, h2, h4⟩, leftWithCleanup_false_of_bare h3⟩)
  obtain ⟨eh, _, _, eo, _⟩ := Shared.forget_eq hf
  have hE := hE.congr eh
  have hk : kept s'.heap := by rw [eh]; exact hk
  rw [← eo] at hos
  have life : s'.heap.life = s.heap.life := (runN_life _ _ _ hrun).trans rest.2.2.2
  refine ⟨vs, s₁, hl, k, _, s', hs, ?_, (fun _ i x hx => by rw [hgens] at hx; simp at hx), hk, by rw [life], Shared.rest_eq hos⟩
  unfold ClaimW.Ends at hE
  refine hE.imp (Exists.imp fun v => And.imp (fun e => congrArg outcomeOf e) (And.imp_right (And.imp_right (And.imp_right (And.imp_left fun d b o y _ => d b o y)))))
    (Exists.imp fun e => Exists.imp fun ob => Exists.imp fun cls => And.imp (fun e => congrArg outcomeOf e) (And.imp_right (And.imp_right (And.imp_right (And.imp_right fun d b o y _ => d b o y)))))
noncomputable abbrev WalkOR (q : Program) (loose : List Str) (XP : (Str → Option Value) → Heap → Prop) (YP : World → Heap → Prop) (r : RowW) (d : DefRec) (kwd : List (Str × Expr)) : Prop :=
  ∀ (w : World) (s₀ s₁ : Shared) (mg mb : Str → Option Value), Ground q loose r.records XP w s₀ mg mb s₁.heap → YP w s₁.heap → ∀ (a : Addr) (o : Obj) (pm cd doc dV kV : Value), s₁.heap.get? a = some o →
    o.data = .func { docDef d.name d.params d.body d.scope pm cd doc with defaults := dV, kwdefaults := kV } → s₁.heap.CodeRec cd d.name → Dflts mg s₁.heap d.params kwd dV kV → mg d.name = some (.ref a) → s₁.gens = #[] →
    ∀ (args : List WData) (vals : List Value) (as : List Addr), r.claim.pre args = true → WData.layableAll args = true → ReadsAllW r.records (classAt s₀.heap) s₁.heap vals args as → WellAll w.params s₁.heap vals args → (∀ a ∈ as, (a == sysModules) = false) →
      wpR (model r.prog w) callerA (PySem.call (.ref a) vals) (fun v s' => GoodWG r.claim (classAt s₀.heap) (ExcName.means s₀.heap) args s₁ (.ok (.ret v)) s')
        (fun e s' => GoodWG r.claim (classAt s₀.heap) (ExcName.means s₀.heap) args s₁ (.error e) s') s₁
theorem holds_openR {r : OpenRow} {q : Program} {loose : List Str} {Xt : Shared → Bool} {XP : (Str → Option Value) → Heap → Prop} {α : Type} {Yf : Shared → α} {Ya : World → α} {YP : World → Heap → Prop} {d : DefRec} {kwd : List (Str × Expr)} {N : Nat}
    (left : LeftO r.prog q loose Xt Yf Ya N) (hY : ∀ w s, Yf s = Ya w → YP w s.heap) (hYk : ∀ w h h', YP w h → (∀ b o, h.get? b = some o → h'.get? b = some o) → YP w h')
    (hX : ∀ s, Xt s = true → XP (s.heap.nsMap mainGlobals) s.heap) (hXk : ∀ mg h h', XP mg h → (∀ b o, h.get? b = some o → h'.get? b = some o) → XP mg h')
    (hdef : defOf q r.name = some (d, kwd)) (hp : r.prog.theDef r.name = some (d.params, d.body, d.scope)) (hk : kwWritten? d.params.kwonlyargs d.params.kw_defaults = some kwd) (hRf : ∀ s, Xt s = true → RecFacts r.records s.heap) (hwr : (!r.writes || r.records.isEmpty) = true)
    (k1 : r.wellSaid = true) (ok : (chainsOk q && opensWell r.prog && (frees r.toRowW && r.within.isEmpty)) = true) (hb : r.prog.bare) (hw : r.toRowW.promised)
    (call : WalkOR q loose XP YP r.toRowW d kwd) : r.Holds := by
  refine ⟨k1, hw, ?_⟩
  obtain ⟨ok, k5⟩ := Bool.and_eq_true_iff.mp ok
  obtain ⟨hch, o1⟩ := Bool.and_eq_true_iff.mp ok
  obtain ⟨k5, k6⟩ := Bool.and_eq_true_iff.mp k5
  obtain ⟨hsame, hu, ha, hap, hm⟩ := frees_parts k5
  have hwi : r.toRowW.claim.within = [] := List.isEmpty_iff.mp k6
  have hi := ident_freeW hu ha hap
  refine ⟨⟨hb, o1, by show r.makers.map _ = []; rw [hm]; rfl⟩, hw.witness, fun w => ⟨(left.behind hX hch w).1, fun s' hs' => ?_⟩⟩
  obtain ⟨s₀, hf, hg0, s, hT, hz, hgens, hg, GX, y⟩ := (left.behind (XP := fun mg h => XP mg h ∧ RecFacts r.records h) (fun s hs => ⟨hX s hs, hRf s hs⟩) hch w).2 s' hs'
  have G0 : Ground q loose [] XP w s (s.heap.nsMap mainGlobals) (s.heap.nsMap builtinsNs) s.heap := ⟨GX.T, GX.B, GX.D, GX.TE, GX.TD, GX.W, GX.X.1, GX.cls, GX.has, GX.apart, GX.once, GX.K⟩
  have RF := GX.X.2
  have hT' := hT
  refine ⟨s₀, hf, hg0, s, hT, fun n hn => ?_, RF.1, RF.2.1, ?_⟩
  · obtain rfl : n = r.name := by split at hn <;> simp_all
    exact pinned_of_view hg G0 hdef hp hk
  have hgens : s.gens = #[] := Array.eq_empty_of_size_eq_zero (beq_iff_eq.mp hgens)
  have G : Ground q loose r.records XP w s _ _ s.heap := RF.ground G0
  refine callFromR (c := r.toRowW.claim) hz hgens fun args hpre hlay ord hord => ?_
  obtain ⟨⟨vs, s₁⟩, hl⟩ := Option.isSome_iff_exists.mp (layAllW_isSome (P := w.params) (ord := ord) G.has args r.args s (pre_splitW hpre).1)
  have keeps := layAllW_keeps _ _ _ hl
  have rest := layAllW_rest _ _ _ hl
  obtain ⟨as, hrd, hin, hold⟩ := reads_layAllW hord _ _ _ hl hlay s₁.heap (fun _ _ e => e)
  have L : Laid r.records w s s₁ args vs as := ⟨⟨ord, hord, hl⟩, hrd, hin, hold, keeps, rest.1.trans hgens, rest.2.2.1⟩
  have G₁ := G.keeps hXk keeps
  obtain ⟨a, o, pm, cd, doc, dV, kV, h1, h2, h3, h4, h5⟩ := G₁.fn hdef
  have hcall := call w s s₁ _ _ G₁ (hYk _ _ _ (hY w s y) keeps) a o pm cd doc dV kV h2 h3 h4 h5 (defOf_name hdef ▸ h1) L.gens args vs as hpre hlay L.reads L.well (L.low G.low)
  refine ⟨vs, s₁, hl, wpR_bindA (wpAny_nsGet G₁.T.g ?_)⟩
  rw [h1]
  refine wpR_bind (wpR_mono hcall (fun v s' g => ?_) fun e s' g => ?_)
  · have z := g.laid (c := r.toRowW.claim) hsame hwi hi L
    exact wpR_pure ⟨_, rfl, z.1, z.2.1, z.2.2, fun q => ⟨namesKept_of hT' hg _ keeps g.2.1.old, noTable hwr q⟩⟩
  · have z := g.laid (c := r.toRowW.claim) hsame hwi hi L
    exact ⟨z.1, z.2.1, z.2.2, fun q => ⟨namesKept_of hT' hg _ keeps g.2.1.old, noTable hwr q⟩⟩
end Mine
end F_HdR
section F_Hs
open PySem PySem.W PyProof.Rows
namespace Mine
abbrev lawRow := PySem.Challenge.rw_np0188_01
theorem lawSaid : lawRow.wellSaid = true := (congrFun PySem.W.Fast.te9446332074065402090 lawRow).trans (by kernel_rfl)
noncomputable abbrev lawP : Program := lawRow.row.prog
noncomputable def toT : List Obj → Nat → BT → BT
  | [], _, t => t
  | o :: os, n, t => toT os (n + 1) (t.ins n o)
noncomputable abbrev lawAnn : Option Value := some (.ref 6)
noncomputable abbrev lawPos : Pos := ⟨0, 0, 0, 0⟩
noncomputable abbrev lawBody : List Stmt := behindTheImports lawP
noncomputable def lawEnv : Env := { scope := lawP.main.scope, locals := mainNs, globals := mainNs, cells := [], code := .ref 13, frame := some 14 }
noncomputable abbrev lawCode : Code := .body lawBody lawEnv
noncomputable def law0 (w : World) (os : OsState) : Shared := ⟨boot_heap w.params, Array.mk [], boot_drawn, boot_toks, os⟩
noncomputable def lawA (w : World) (os : OsState) : Shared := (topGo treeTable lawP w 11 lawAnn 12 (law0 w os) (topStub lawP)).elim (law0 w os) (·.1)
noncomputable def lawT (w : World) (os : OsState) : SharedT := ⟨toT (lawA w os).heap.objs.toList 0 .nil, (lawA w os).heap.objs.size, (lawA w os).heap.life, (lawA w os).gens, (lawA w os).drawn, (lawA w os).toks, (lawA w os).os⟩
theorem law_size (w : World) (os : OsState) : ((law0 w os).heap.isNs mainGlobals && (law0 w os).gens.size == 0, (law0 w os).heap.objs.size, (law0 w os).heap.nsMap mainGlobals "__annotations__") = (true, 11, lawAnn) := by kernel_rfl
theorem law_pre (w : World) (os : OsState) : topGo treeTable lawP w 11 lawAnn 12 (law0 w os) (topStub lawP) = some (lawA w os, ⟨denote treeTable lawCode, lawCode, lawPos, [topFrame lawPos]⟩) := by kernel_rfl
theorem law_abs (w : World) (os : OsState) : (lawT w os).abs = lawA w os := by kernel_rfl
theorem law_block (w : World) (os : OsState) : segRun treeTable lawP w 11 lawAnn 1 1 (lawA w os) (blockOf lawBody lawEnv lawCode lawPos [topFrame lawPos]) = some (.next, lawA w os, lawCode, lawPos) := by kernel_rfl
theorem topFrom_of {tb : String → Option Builtin} {p : Program} {w : World} {M N n₀ : Nat} {ann : Option Value} {s₀ r : Shared} (z1 : (s₀.heap.isNs mainGlobals && s₀.gens.size == 0) = true) (z2 : s₀.heap.objs.size = n₀) (z3 : s₀.heap.nsMap mainGlobals "__annotations__" = ann)
    (t : topRun tb p w n₀ ann M s₀ (topStub p) = some r) (e : M = N) (b : (staticsOk (importedModules p.main.body) s₀.heap r.heap && namesBound p r.heap && gensDone r && laidKept s₀.heap r.heap) = true) : topFrom tb p w N s₀ = some r := by
  subst z2 z3 e
  unfold topFrom
  rw [z1]
  show (topRun tb p w s₀.heap.objs.size (s₀.heap.nsMap mainGlobals "__annotations__") M s₀ (topStub p)).bind _ = _
  rw [t]
  show (match staticsOk (importedModules p.main.body) s₀.heap r.heap && namesBound p r.heap && gensDone r && laidKept s₀.heap r.heap with | true => _ | false => _) = _
  rw [b]
theorem openEnds_of {tb : String → Option Builtin} {p : Program} {w : World} {N : Nat} {s₀ r : Shared} (e : fencedOpening tb p w N = some s₀) (t : topFrom tb p w N s₀ = some r) : openEnds tb p w N = some r := by
  unfold openEnds
  rw [e]; exact t
theorem map_of {α β : Type} {o : Option α} {r : α} {f : α → β} {b : β} (e : o = some r) (h : f r = b) : o.map f = some b := by rw [e, ← h]; rfl
section
variable {T : String → Option Builtin} {R : (String → Option Builtin) → Program → World → Nat → Option Value → Nat → Nat → SharedT → Thread → Option (Flow × SharedT × Code × Pos)} {S : (String → Option Builtin) → Program → World → Nat → Option Value → Nat → Shared → Thread → Option Shared} {X : List Stmt → Env → Sem Flow}
theorem leftTree (hT : treeTable = T) (hR : @segRunT = R) (hS : @topRun = S) (hX : @execs = X) {O} (hO : @openSeen = O) {Xt : Shared → Bool} {α : Type} {Yf : Shared → α} {Ya : World → α}
    (h : ∀ w os, (R T lawP w 11 lawAnn 1 2600 (lawT w os) ⟨(X lawBody lawEnv).wrap doneF deadEnd id id, lawCode, lawPos, [topFrame lawPos]⟩).map (fun r => (r.1, r.2.2.1, (S T lawP w 11 lawAnn 3 r.2.1.abs ⟨doneF .next, lawCode, r.2.2.2, [topFrame lawPos]⟩).map fun r =>
      (staticsOk (importedModules lawP.main.body) (law0 w os).heap r.heap && namesBound lawP r.heap && gensDone r && laidKept (law0 w os).heap r.heap, O lawP [] (importedModules lawP.main.body) Xt true r, Yf r))) = some (Flow.next, lawCode, some (true, openGood lawP [], Ya w))) : LeftO lawP lawP [] Xt Yf Ya 5200 := fun w => by
  subst hT hR hS hX hO
  obtain ⟨⟨h1, gs, d, k, os⟩, e1, e2⟩ := Option.map_eq_some_iff.mp (boot_open (p := lawP) (N := 5200) (by rfl) (by rfl) (fun s => by rfl) w)
  obtain ⟨rfl, rfl, rfl, rfl⟩ : h1 = boot_heap w.params ∧ gs = Array.mk [] ∧ d = boot_drawn ∧ k = boot_toks := by simpa using e2
  obtain ⟨⟨f, s, c, q⟩, a1, a2⟩ := Option.map_eq_some_iff.mp (h w os)
  obtain ⟨rfl, a2⟩ := Prod.mk.inj a2
  obtain ⟨rfl, a2⟩ := Prod.mk.inj a2
  obtain ⟨r, b1, b2⟩ := Option.map_eq_some_iff.mp a2
  obtain ⟨b2, b3⟩ := Prod.mk.inj b2
  obtain ⟨z1, z2⟩ := Prod.mk.inj (law_size w os)
  obtain ⟨z2, z3⟩ := Prod.mk.inj z2
  have a3 := segRun_of a1
  rw [law_abs] at a3
  have t1 := piece_app (rest := []) a3 (piece_nil b1)
  rw [List.append_nil] at t1
  have t2 := topRun_mono 2584 _ _ _ _ (go_top (law_pre w os) (piece_block (law_block w os) t1))
  exact map_of (openEnds_of e1 (topFrom_of z1 z2 z3 t2 rfl b2)) b3
end
theorem ohead {d : DefRec} {kwd : List (Str × Expr)} (H : Hook) (k1 : lawRow.row.wellSaid = true) (hdef : defOf lawRow.row.prog lawRow.row.name = some (d, kwd)) (hp : lawRow.row.prog.theDef lawRow.row.name = some (d.params, d.body, d.scope)) (hk : kwWritten? d.params.kwonlyargs d.params.kw_defaults = some kwd)
    (hl : LeftO lawRow.row.prog lawRow.row.prog [] (fun s => xlAt lawRow.row.prog [] s && recOk (RowW.records lawRow.row.toRowW) s) H.obs H.val 5200) (hw : lawRow.row.toRowW.promised)
    (hc : WalkOR lawRow.row.prog [] (XL lawRow.row.prog []) H.says lawRow.row.toRowW d kwd) : lawRow.row.Holds :=
  holds_openR hl H.of H.keeps (fun s e => xl_of s (Bool.and_eq_true_iff.mp e).1) XL.keeps hdef hp hk (fun s e => recFacts_of (Bool.and_eq_true_iff.mp e).2) (by rfl) k1 (by decide +kernel) ⟨rfl, rfl, rfl, rfl, rfl, by decide +kernel⟩ hw hc
local macro_rules
  | `(tactic| o_law) => `(tactic| refine holds_law lawSaid fun said => ?_)
local macro_rules
  | `(tactic| o_head $H) => `(tactic| (refine ohead $H (by assumption) (by rfl) (by rfl) (by rfl) ?hl ?hw ?hc; (case hl => (refine leftTree PySem.W.Fast.te14364793385576792824 PySem.W.Fast.te10110043849684766642 PySem.W.Fast.te14082659384304107361 PySem.W.Fast.te12563942051412417395 PySem.W.Fast.te4187177175401517315 fun w os => ?_; kernel_rfl))))
set_option maxHeartbeats 8000000 in
open_top hd for PySem.Challenge.rw_np0188_01
end Mine
end F_Hs
section F_BaseA
open PySem PySem.W PySem.Spec PySem.Calls PyProof.Rows
namespace Mine
noncomputable abbrev prg := Challenge.rw_np0188_01.row.prog
noncomputable abbrev tupO (vs : Array Value) : Obj := { cls := .type "tuple", data := .seq vs }
noncomputable def Keeps (ws : List Addr) (h h' : Heap) : Prop := ∀ b o, b ∉ ws → h.get? b = some o → h'.get? b = some o
noncomputable def isSeqO (o : Obj) : Prop := ∃ vs n, o.data = .seq vs n
noncomputable def Rd (h : Heap) (v : Value) (d : PyData) : Prop := ∃ as, Reads h v d as
noncomputable def Rds (h : Heap) (vs : List Value) (ds : List PyData) : Prop := ∃ as, ReadsAll h vs ds as
theorem Rd.int {h i t} : Rd h (.int i t) (.int i) := ⟨_, .int i t⟩
theorem Rd.bool {h b} : Rd h (.bool b) (.bool b) := ⟨_, .bool b⟩
theorem Rd.none {h} : Rd h .none .none := ⟨_, .none⟩
theorem Rd.str {h x t} : Rd h (.str x t) (.str x) := ⟨_, .str x t⟩
theorem Rds.nil {h} : Rds h [] [] := ⟨_, .nil⟩
theorem Rds.cons {h v d vs ds} (a : Rd h v d) (b : Rds h vs ds) : Rds h (v :: vs) (d :: ds) := let ⟨_, x⟩ := a; let ⟨_, y⟩ := b; ⟨_, .cons x y⟩
theorem Rd.tup {h a n vs ds} (ho : h.get? a = some { cls := .type "tuple", data := .seq vs n }) (hi : Rds h vs.toList ds) : Rd h (.ref a) (.tuple ds) := let ⟨_, r⟩ := hi; ⟨_, .tuple ho rfl rfl r⟩
theorem Rd.tup' {h a o n vs ds} (ho : h.get? a = some o) (hc : o.cls = .type "tuple") (hd : o.data = .seq vs n) (hi : Rds h vs.toList ds) : Rd h (.ref a) (.tuple ds) := let ⟨_, r⟩ := hi; ⟨_, .tuple ho hc hd r⟩
inductive SeqI (c : String) (h : Heap) (v : Value) (ds : List PyData) : Prop
  | in_ (a : Addr) (o : Obj) (vs : Array Value) (n) (_ : v = .ref a) (_ : h.get? a = some o) (_ : o.cls = .type c) (_ : o.data = .seq vs n) (_ : Rds h vs.toList ds) : SeqI c h v ds
inductive RdsC (h : Heap) (vs : List Value) (d : PyData) (ds : List PyData) : Prop
  | in_ (v : Value) (r : List Value) (_ : vs = v :: r) (_ : Rd h v d) (_ : Rds h r ds) : RdsC h vs d ds
noncomputable def RdI (h : Heap) (v : Value) : PyData → Prop
  | .tuple ds => SeqI "tuple" h v ds
  | .list ds => SeqI "list" h v ds
  | .int i => ∃ t, v = .int i t
  | _ => True
noncomputable def RdsI (h : Heap) (vs : List Value) : List PyData → Prop
  | [] => vs = []
  | d :: ds => RdsC h vs d ds
theorem Rd.inv {h v d} (x : Rd h v d) : RdI h v d := by
  obtain ⟨as, r⟩ := x
  cases r with
  | tuple h1 h2 h3 h4 => exact ⟨_, _, _, _, rfl, h1, h2, h3, _, h4⟩
  | list h1 h2 h3 h4 => exact ⟨_, _, _, _, rfl, h1, h2, h3, _, h4⟩
  | int _ t => exact ⟨t, rfl⟩
  | _ => trivial
theorem Rds.inv {h vs ds} (x : Rds h vs ds) : RdsI h vs ds := by
  obtain ⟨as, r⟩ := x
  cases r with
  | nil => rfl
  | cons p q => exact ⟨_, _, rfl, ⟨_, p⟩, ⟨_, q⟩⟩
theorem Rd.tup_inv {h v ds} (x : Rd h v (.tuple ds)) : SeqI "tuple" h v ds := x.inv
theorem Rd.int_inv {h v i} (x : Rd h v (.int i)) : ∃ t, v = .int i t := x.inv
theorem Rds.nil_inv {h vs} (x : Rds h vs []) : vs = [] := x.inv
theorem Rds.cons_inv {h vs d ds} (x : Rds h vs (d :: ds)) : RdsC h vs d ds := x.inv
inductive TupOnly : PyData → Prop
  | none : TupOnly .none
  | bool (b) : TupOnly (.bool b)
  | int (i) : TupOnly (.int i)
  | str (x) : TupOnly (.str x)
  | tup {ds} : (∀ d ∈ ds, TupOnly d) → TupOnly (.tuple ds)
noncomputable def TupOnlyI : PyData → Prop
  | .tuple ds => ∀ d ∈ ds, TupOnly d
  | .list _ => False
  | .dict _ => False
  | _ => True
theorem TupOnly.inv {d} (t : TupOnly d) : TupOnlyI d := by
  cases t with
  | tup t => exact t
  | _ => trivial
noncomputable def Clc (h : Heap) (P : Heap → Prop) : Prop := ∃ tl : List (Addr × Obj), (∀ p ∈ tl, h.get? p.1 = some p.2 ∧ p.2.cls = .type "tuple" ∧ isSeqO p.2) ∧ ∀ h' : Heap, (∀ p ∈ tl, h'.get? p.1 = some p.2) → P h'
theorem Clc.of {h P} (x : ∀ h', P h') : Clc h P := ⟨[], fun _ hp => (List.not_mem_nil hp).elim, fun h' _ => x h'⟩
theorem Clc.tup {h : Heap} {a o vs n ds} (h1 : h.get? a = some o) (h2 : o.cls = .type "tuple") (h3 : o.data = .seq vs n) (x : Clc h fun h' => Rds h' vs.toList ds) : Clc h fun h' => Rd h' (.ref a) (.tuple ds) := by
  obtain ⟨tl, a, b⟩ := x
  refine ⟨(_, _) :: tl, fun p hp => ?_, fun h' hk => .tup' (hk _ (.head _)) h2 h3 (b h' fun p hp => hk p (.tail _ hp))⟩
  rcases List.mem_cons.mp hp with rfl | hp
  · exact ⟨h1, h2, _, _, h3⟩
  · exact a p hp
theorem Clc.and {h P Q} (x : Clc h P) (y : Clc h Q) : Clc h fun h' => P h' ∧ Q h' := by
  obtain ⟨t1, a1, b1⟩ := x
  obtain ⟨t2, a2, b2⟩ := y
  exact ⟨t1 ++ t2, fun p hp => (List.mem_append.mp hp).elim (a1 p) (a2 p), fun h' hk => ⟨b1 h' fun p hp => hk p (List.mem_append.mpr (.inl hp)), b2 h' fun p hp => hk p (List.mem_append.mpr (.inr hp))⟩⟩
theorem Clc.mp {h} {P Q : Heap → Prop} (x : Clc h P) (k : ∀ h', P h' → Q h') : Clc h Q := by
  obtain ⟨t, a, b⟩ := x
  exact ⟨t, a, fun h' hk => k h' (b h' hk)⟩
theorem clc_nil {h : Heap} : Clc h fun h' => Rds h' [] [] := Clc.of fun _ => .nil
theorem clc_cons {h : Heap} {v d vs ds} (x : Clc h fun h' => Rd h' v d) (y : Clc h fun h' => Rds h' vs ds) : Clc h fun h' => Rds h' (v :: vs) (d :: ds) := (x.and y).mp fun _ z => .cons z.1 z.2
theorem rd_collect {h : Heap} {v d as} (r : Reads h v d as) : TupOnly d → Clc h fun h' => Rd h' v d :=
  Reads.rec (motive_1 := fun v d _ _ => TupOnly d → Clc h fun h' => Rd h' v d) (motive_2 := fun vs ds _ _ => (∀ d ∈ ds, TupOnly d) → Clc h fun h' => Rds h' vs ds)
    (fun _ => Clc.of fun _ => .none) (fun _ _ => Clc.of fun _ => .bool) (fun _ _ _ => Clc.of fun _ => .int) (fun _ _ _ => Clc.of fun _ => .str)
    (fun _ _ _ _ _ t => t.inv.elim) (fun h1 h2 h3 _ ih t => Clc.tup h1 h2 h3 (ih t.inv)) (fun _ _ _ _ _ _ _ t => t.inv.elim)
    (fun _ => clc_nil) (fun _ _ ih1 ih2 t => clc_cons (ih1 (t _ (.head _))) (ih2 fun d hd => t d (.tail _ hd))) r
theorem ns_notSeq {h : Heap} {L : Addr} {m o} (n : h.Ns L m) (ho : h.get? L = some o) (q : isSeqO o) : False := by
  obtain ⟨o', es, ep, a, b, _⟩ := n
  rw [ho] at a; cases a
  obtain ⟨vs, k, e⟩ := q
  rw [b] at e; cases e
end Mine
end F_BaseA
section F_BaseB
open PySem PySem.W PySem.Spec PySem.Calls PyProof.Rows
namespace Mine
structure Ky where
  sum : List Int
  l : Int
  p : Int
  c : Int
  deriving DecidableEq
noncomputable def kyP (k : Ky) : PyData := .tuple [.tuple (k.sum.map .int), .int k.l, .int k.p, .int k.c]
noncomputable def isKy (h : Heap) (k : Ky) (a : Addr) : Prop := Rd h (.ref a) (kyP k)
theorem tupOnly_ints (ns : List Int) : ∀ d ∈ ns.map PyData.int, TupOnly d := fun d hd => by
  obtain ⟨i, _, rfl⟩ := List.mem_map.mp hd; exact .int i
theorem tupOnly_ky (k : Ky) : TupOnly (kyP k) := .tup fun d hd => by
  simp only [List.mem_cons, List.not_mem_nil, or_false] at hd
  rcases hd with rfl | rfl | rfl | rfl
  · exact .tup (tupOnly_ints _)
  all_goals exact .int _
theorem canLay_ints (ns : List Int) : PyData.canLayAll0 (ns.map .int) = true := by
  induction ns with
  | nil => rfl
  | cons n ns ih => simp only [List.map_cons, PyData.canLayAll0, PyData.canLay0, ih, Bool.and_self]
theorem canLay_ky (k : Ky) : (kyP k).canLay0 = true := by
  simp [kyP, PyData.canLay0, PyData.canLayAll0, canLay_ints]
theorem eqv_ints (a b : List Int) : PyData.eqvAll (a.map .int) (b.map .int) = decide (a = b) := by
  induction a generalizing b with
  | nil => cases b <;> simp [PyData.eqvAll]
  | cons x a ih =>
    cases b with
    | nil => simp [PyData.eqvAll]
    | cons y b =>
      simp only [List.map_cons, PyData.eqvAll, PyData.eqv, ih, List.cons.injEq]
      by_cases h : x = y <;> by_cases h' : a = b <;> simp [h, h']
theorem eqv_ky (x y : Ky) : PyData.eqv (kyP x) (kyP y) = decide (x = y) := by
  obtain ⟨s, l, p, c⟩ := x
  obtain ⟨s', l', p', c'⟩ := y
  simp only [kyP, PyData.eqv, PyData.eqvAll, eqv_ints, Ky.mk.injEq, Bool.and_true]
  by_cases h1 : s = s' <;> by_cases h2 : l = l' <;> by_cases h3 : p = p' <;> by_cases h4 : c = c' <;> simp [h1, h2, h3, h4]
theorem kyP_inj {x y : Ky} (h : kyP x = kyP y) : x = y := by
  have := eqv_ky x y
  rw [h, eqv_ky y y] at this
  simpa using this.symm
theorem isKy_inj {h : Heap} {a : Addr} {x y : Ky} (hx : isKy h x a) (hy : isKy h y a) : x = y := by
  obtain ⟨_, r⟩ := hx
  obtain ⟨_, r'⟩ := hy
  exact kyP_inj (SeqAt.Reads.unique _ _ _ _ _ (canLay_ky x) r r')
theorem rds_itemsAre {prog : Program} {w : World} {h : Heap} : ∀ {ns : List Int} {vs : List Value}, Rds h vs (ns.map .int) → ItemsAre (intKind prog w) ns vs
  | [], vs, x => by rw [x.nil_inv]; exact .nil
  | n :: ns, vs, x => by
    obtain ⟨v, r, rfl, p, q⟩ := x.cons_inv
    obtain ⟨t, rfl⟩ := p.int_inv
    exact .cons (intKind_is prog w n t) (rds_itemsAre q)
theorem rd_isTupleKey {prog : Program} {w : World} {h : Heap} {ns : List Int} {a : Addr} (x : Rd h (.ref a) (.tuple (ns.map .int))) : IsTupleKey (intKind prog w) h ns a := by
  obtain ⟨b, o, vs, n, e, h1, h2, h3, h4⟩ := x.tup_inv
  cases e
  exact ⟨o, vs, n, h1, h2, h3, rds_itemsAre h4⟩
inductive KyI (h : Heap) (k : Ky) (a : Addr) : Prop
  | in_ (o : Obj) (vs : Array Value) (n) (q : Addr) (t1 t2 t3 : Tok) (_ : h.get? a = some o) (_ : o.cls = .type "tuple") (_ : o.data = .seq vs n) (_ : vs.toList = [.ref q, .int k.l t1, .int k.p t2, .int k.c t3]) (_ : Rd h (.ref q) (.tuple (k.sum.map .int))) : KyI h k a
theorem isKy.open {h : Heap} {k : Ky} {a : Addr} (x : isKy h k a) : KyI h k a := by
  obtain ⟨b, o, vs, n, e, h1, h2, h3, h4⟩ := Rd.tup_inv x
  cases e
  obtain ⟨v1, r1, e1, p1, q1⟩ := h4.cons_inv
  obtain ⟨v2, r2, rfl, p2, q2⟩ := q1.cons_inv
  obtain ⟨v3, r3, rfl, p3, q3⟩ := q2.cons_inv
  obtain ⟨v4, r4, rfl, p4, q4⟩ := q3.cons_inv
  rw [q4.nil_inv] at e1
  obtain ⟨t1, rfl⟩ := p2.int_inv
  obtain ⟨t2, rfl⟩ := p3.int_inv
  obtain ⟨t3, rfl⟩ := p4.int_inv
  obtain ⟨q, _, _, _, rfl, _⟩ := p1.tup_inv
  exact ⟨o, vs, n, q, t1, t2, t3, h1, h2, h3, e1, p1⟩
noncomputable def kyHash (prog : Program) (w : World) (k : Ky) : Int := reduceHash (Builtin.Tuple.tupleHashOf [tupleKeyHash (intKind prog w) k.sum, hashInt k.l, hashInt k.p, hashInt k.c])
noncomputable def kyDraws (k : Ky) : Nat := k.sum.length + 1 + 4
section
variable {prog : Program} {w : World} {A : Around} {E : Value → Shared → Prop} {s : Shared}
theorem ky_pyHash {k : Ky} {a : Addr} {Q : Int → Shared → Prop} (hu : A.units + 20 < cLine) (hk : isKy s.heap k a) (h : Q (kyHash prog w k) { s with toks := s.toks + kyDraws k }) :
    wpAny (model prog w) A (pyHash (.ref a)) Q E s := by
  obtain ⟨o, items, n, q, t1, t2, t3, ho, hc, hd, hv, hq⟩ := hk.open
  have hT : s.TypeIs (.ref a) "tuple" := ⟨o, ho, hc⟩
  unfold pyHash
  unfold pyHashByItsType
  refine wpAny_bind (wpAny_cRoomFor_or (.inr (by omega)) ?_)
  refine wpAny_bind (wpAny_specialOf hT F.slot_tuple_hash.lookup ?_)
  show wpAny _ _ (if (some (Value.builtin "tuple.__hash__") == some Value.none) = true then _ else _) Q E s
  rw [if_neg (by rw [beq_builtin_none]; exact Bool.false_ne_true)]
  refine wpAny_bind (wpAny_specialOf hT F.slot_tuple_hash.lookup ?_)
  show wpAny _ _ (callSpecialIfBoundUnlessNone? (.ref a) "__hash__" _ >>= _) Q E s
  refine wpAny_bind (wpAny_callSpecialIfBoundUnlessNone?_slot hT F.slot_tuple_hash (wpAny_call_entry F.slot_tuple_hash hT F.entry_tuple_hash ?_ (F.args_tuple_hash_1 _)))
  show wpAny _ _ (Builtin.Tuple.tupleItemsOf (.ref a) >>= _) _ _ s
  refine wpAny_bind (wpAny_tupleItemsOf ho hd ?_)
  refine wpAny_bind ?_
  rw [← Array.forIn_toList, hv]
  simp only [List.forIn_cons, List.forIn_nil, bind_assoc, pure_bind]
  have hin : A.in1.units < cLine := by show A.units + 1 < cLine; omega
  refine wpAny_bind (wpAny_pyHash_tuple (knd := intKind prog w) hin (rd_isTupleKey hq) ?_)
  refine wpAny_bind (wpAny_pyHash_int ?_)
  refine wpAny_bind (wpAny_pyHash_int ?_)
  refine wpAny_bind (wpAny_pyHash_int ?_)
  refine wpAny_pure ?_
  show wpAny _ _ (retInt (Builtin.Tuple.tupleHashOf [tupleKeyHash (intKind prog w) k.sum, hashInt k.l, hashInt k.p, hashInt k.c])) _ _ _
  refine wpAny_ret_mkInt ?_
  have ht : s.toks + (k.sum.length + 1) + 1 + 1 + 1 + 1 = s.toks + kyDraws k := by unfold kyDraws; lia
  show wpAny _ _ (if (decide (-(2 : Int) ^ 63 ≤ Builtin.Tuple.tupleHashOf _) && decide (Builtin.Tuple.tupleHashOf _ < 2 ^ 63)) = true then _ else _) Q E { s with toks := s.toks + (k.sum.length + 1) + 1 + 1 + 1 + 1 }
  rw [ht]
  unfold kyHash reduceHash at h
  split at h
  · rename_i hr
    rw [if_pos hr]
    exact wpAny_pure h
  · rename_i hr
    rw [if_neg hr]
    exact wpAny_bind (wpAny_rule (wpAny_pure h))
theorem ky_eqBool {x y : Ky} {a b : Addr} {Q : Bool → Shared → Prop} (hu : A.units + 20 < cLine) (hx : isKy s.heap x a) (hy : isKy s.heap y b) (h : Q (decide (x = y)) s) :
    wpAny (model prog w) A (eqBool (.ref a) (.ref b)) Q E s := by
  obtain ⟨as, rx⟩ := hx
  obtain ⟨bs, ry⟩ := hy
  refine SeqAt.eqBoolOverData prog w A E s _ _ _ _ as bs Q rx ry (canLay_ky x) (canLay_ky y) ?_ (by rw [eqv_ky]; exact h)
  have hd : ∀ ns : List Int, PyData.depthAll (ns.map .int) ≤ 1 := by
    intro ns
    induction ns with
    | nil => simp [PyData.depthAll]
    | cons n ns ih => simp only [List.map_cons, PyData.depthAll, PyData.depth]; lia
  have h1 := hd x.sum
  have : (kyP x).depth ≤ 10 := by simp only [kyP, PyData.depth, PyData.depthAll]; lia
  have := Nat.min_le_left (kyP x).depth (kyP y).depth
  omega
theorem quiet_tuple {m : Nat} {ks : List Int} {a : Addr} {Q : Bool → Shared → Prop} (hk : IsTupleKey (intKind prog w) s.heap ks a) (h : Q true s) : wpAny (model prog w) A (eqIsQuiet (m + 1) (.ref a)) Q E s := by
  have hT := hk.typeIs
  obtain ⟨o, items, n, ho, _, hd, hi⟩ := hk
  unfold eqIsQuiet
  refine wpAny_bind (wpAny_specialOf hT F.slot_tuple_eq.lookup ?_)
  show wpAny _ _ (isInstance (.ref a) (.type "tuple") >>= _) _ _ s
  refine wpAny_bind (wpAny_isInstance hT isSubtype_tuple_tuple ?_)
  simp only [Bool.not_true, Bool.false_eq_true, if_false]
  refine wpAny_bind (wpAny_seqItems ho hd ?_)
  refine wpAny_bind ?_
  show wpAny _ _ (forIn items _ _) _ _ s
  rw [← Array.forIn_toList]
  refine wpAny_forIn_list _ (fun rest r s' => r.1 = none ∧ s' = s ∧ ∀ v ∈ rest, carriedByValue v = true) _ ?_ ?_ _ _ ⟨rfl, rfl, hi.byValue⟩
  · rintro v rest r s' ⟨hr, rfl, hall⟩
    rw [eqIsQuiet_byValue _ (hall v List.mem_cons_self)]
    refine wpAny_bind (wpAny_pure ?_)
    simp only [Bool.not_true, Bool.false_eq_true, if_false]
    exact wpAny_pure ⟨rfl, rfl, fun u hu' => hall u (List.mem_cons_of_mem _ hu')⟩
  · rintro ⟨r1, r2⟩ s' ⟨hr, rfl, _⟩
    simp only at hr
    subst hr
    exact wpAny_pure h
theorem ky_quiet {k : Ky} {a : Addr} {Q : Bool → Shared → Prop} (hk : isKy s.heap k a) (h : Q true s) : wpAny (model prog w) A (eqIsQuiet 8 (.ref a)) Q E s := by
  obtain ⟨o, items, n, q, t1, t2, t3, ho, hc, hd, hv, hq⟩ := hk.open
  have hT : s.TypeIs (.ref a) "tuple" := ⟨o, ho, hc⟩
  unfold eqIsQuiet
  refine wpAny_bind (wpAny_specialOf hT F.slot_tuple_eq.lookup ?_)
  show wpAny _ _ (isInstance (.ref a) (.type "tuple") >>= _) _ _ s
  refine wpAny_bind (wpAny_isInstance hT isSubtype_tuple_tuple ?_)
  simp only [Bool.not_true, Bool.false_eq_true, if_false]
  refine wpAny_bind (wpAny_seqItems ho hd ?_)
  refine wpAny_bind ?_
  show wpAny _ _ (forIn items _ _) _ _ s
  rw [← Array.forIn_toList, hv]
  simp only [List.forIn_cons, List.forIn_nil, bind_assoc]
  refine wpAny_bind (quiet_tuple (rd_isTupleKey hq) ?_)
  simp only [Bool.not_true, Bool.false_eq_true, if_false, pure_bind]
  simp only [eqIsQuiet_byValue _ (show carriedByValue (Value.int _ _) = true from rfl), pure_bind, Bool.not_true, Bool.false_eq_true, if_false]
  exact wpAny_pure (wpAny_pure h)
end
theorem ky_keeps {h h' : Heap} {k : Ky} {a d : Addr} {o : Obj} {es ep} (x : isKy h k a) (ho : h.get? d = some o) (hd : o.data = .dict es ep) (hs : Heap.SameBut d h h') : isKy h' k a := by
  have conv : ∀ {v d'}, TupOnly d' → ∀ {as}, Reads h v d' as → Rd h' v d' := by
    intro v d' t as r
    obtain ⟨tl, a1, b1⟩ := rd_collect r t
    refine b1 h' fun p hp => ?_
    obtain ⟨e1, _, vs, n, e2⟩ := a1 p hp
    refine (hs.2 p.1 fun q => ?_).trans e1
    rw [q, ho] at e1; cases e1
    rw [hd] at e2; cases e2
  obtain ⟨as, r⟩ := x
  exact conv (tupOnly_ky k) r
noncomputable def kyK (prog : Program) (w : World) : HeapKind prog w Ky where
  is := isKy
  hash := kyHash prog w
  draws := kyDraws
  room := fun A => A.units + 20 < cLine
  inj := fun hx hy => isKy_inj hx hy
  keeps := fun x ho hd hs => ky_keeps x ho hd hs
  pyHash := fun hu hk h => ky_pyHash hu hk h
  eqBool := fun hu hx hy h => ky_eqBool hu hx hy h
  quiet := fun hk h => ky_quiet hk h
end Mine
end F_BaseB
section F_BaseC
open PySem PySem.W PySem.Spec PySem.Calls PyProof.Rows
namespace Mine
section
variable {prog : Program} {w : World} {A₀ A : Around} {s : Shared} {base h₀ : Heap} {outer : List Env} {L : Addr} {m mg mb : Str → Option Value} {env : Env} {W : List (Addr × Obj)} {K : Frag} {p : Program} {loose : List Str} {mean : ExcName → Option Value}
end
noncomputable def Call (w : World) (D U : Nat) (f : Addr) (args : List Value) (W : List (Addr × Obj)) (pre : Heap → Prop) (post : Heap → Value → List (Addr × Obj) → Heap → Prop) : Prop :=
  ∀ (loose : List Str) (mean : ExcName → Option Value) (mg mb : Str → Option Value) (dp un : Nat) (gd : Option (List Code)) (cn : Str) (cs : Scope) (a : Addr) (ccd : Value) (cl : List (Str × Addr)) (outer : List Env) (A₀ : Around) (base h₀ : Heap) (L : Addr) (m : Str → Option Value) (s : Shared) (Q E : Value → Shared → Prop),
    Below A₀ base outer h₀ → Fr h₀ L s.heap m → (hd.heap_1 w.params).In h₀ → Top topProg loose mean mg mb h₀ → cs.kind = .function → dp + D < recursionLimit → un + U < cLine →
    News h₀ L s.heap W → pre s.heap →
    (∀ r W' h' tk', Fr h₀ L h' m → Keeps (W.map (·.1)) s.heap h' → News h₀ L h' W' → post s.heap r W' h' → Q r { s with heap := h', toks := tk' }) →
    wpAny (model prg w) (ktrTop dp un gd cn cs L a ccd cl outer) (call (.ref f) args) Q E s
end Mine
end F_BaseC
section F_BaseD
open PySem PySem.W PySem.Spec PySem.Calls PyProof.Rows
namespace Mine
structure Ent where
  ps : List (Int × Int × Int)
  b : Int
  n : Int
  deriving DecidableEq
noncomputable def plP (x : Int × Int × Int) : PyData := .tuple [.int x.1, .int x.2.1, .int x.2.2]
noncomputable def psP (ps : List (Int × Int × Int)) : PyData := .tuple (ps.map plP)
noncomputable abbrev Tab := List (Ky × Ent)
end Mine
end F_BaseD
section F_BaseE
open PySem PySem.W PySem.Spec PySem.Calls PyProof.Rows
namespace Mine
section
variable {prog : Program} {w : World} {A : Around} {E : Value → Shared → Prop} {s : Shared} {d a : Addr} {k : Ky} {xs : List (Ky × Addr × Value)}
theorem dict_item {value slice : Expr} {ops : List Value} {p : Addr × Value} {Q : Value → Shared → Prop} (hu : A.units + 21 < cLine) (hkey : isKy s.heap k a) (hm : s.heap.DictOfH (kyK prog w) d xs) (hp : atKey xs k = some p)
    (h : Q p.2 { s with toks := s.toks + kyDraws k }) (hs : subscripted slice false (.ref d) (.ref a) = operate ops (getItem (.ref d) (.ref a))) :
    wpAny (model prog w) A (subscriptTail value slice (.ref d) (.ref a)) Q E s :=
  tail_any hm.typeIs slot_dict_getitem.lookup (wpAny_getItem_heap (knd := kyK prog w) (show A.units + 1 + 20 < cLine by omega) hkey hm hp h) hs
theorem dict_in {Q : Value → Shared → Prop} (hu : A.units + 21 < cLine) (hkey : isKy s.heap k a) (hm : s.heap.DictOfH (kyK prog w) d xs) (lo : (d == sysModules) = false)
    (h : Q (.bool (atKey xs k).isSome) { s with toks := s.toks + kyDraws k }) : wpAny (model prog w) A (compareOp .In (.ref a) (.ref d)) Q E s :=
  wpAny_in_heap (knd := kyK prog w) (show A.units + 1 + 20 < cLine by omega) hkey lo hm h
end
section
variable {prog : Program} {w : World} {A : Around} {E : Value → Shared → Prop} {s : Shared}
theorem adjust_upto (b n : Nat) (hb : b ≤ n) : Builtin.Slice.sliceAdjust none (some (b : Int)) 1 (n : Int) = ((0 : Int), (b : Int)) := by
  unfold Builtin.Slice.sliceAdjust
  have h1 : ¬ ((1 : Int) < 0) := by omega
  have h2 : ¬ ((b : Int) < 0) := by omega
  simp only [h1, h2, if_false]
  congr 1
  omega
theorem places_upto (b : Nat) : Builtin.Slice.slicePlaces (0 : Int) (b : Int) 1 = b := by
  unfold Builtin.Slice.slicePlaces
  have h1 : (1 : Int) > 0 := by omega
  simp only [h1, if_true, Int.ediv_one]
  split <;> lia
theorem sliceApplied_upto {sl : Addr} {b n : Nat} {u : Tok} {Q : Int × Int × Nat → Shared → Prop} (hs : s.heap.IsSliceOf sl .none (.int b u) .none) (hb : b ≤ n) (h : Q ((0 : Int), 1, b) s) :
    wpAny (model prog w) A (Builtin.Slice.sliceApplied (.ref sl) (pure (n : Int))) Q E s := by
  obtain ⟨os, hos, hcs, hds⟩ := id hs
  unfold Builtin.Slice.sliceApplied Builtin.Slice.sliceFields
  refine wpAny_bind (wpAny_bind (wpAny_field hos hds (x := .none) rfl (wpAny_bind (wpAny_field hos hds (x := .int b u) rfl (wpAny_bind (wpAny_field hos hds (x := .none) rfl (wpAny_pure ?_)))))))
  refine wpAny_bind (slicePart_none ?_)
  show wpAny _ _ (if ((1 : Int) == 0) = true then _ else _) _ _ s
  rw [if_neg (by decide)]
  refine wpAny_bind (slicePart_none (wpAny_bind (slicePart_int (wpAny_bind (wpAny_pure ?_)))))
  show wpAny _ _ (match Builtin.Slice.sliceAdjust none (some (b : Int)) 1 (n : Int) with | (lo, hi) => pure (lo, (1 : Int), Builtin.Slice.slicePlaces lo hi 1)) _ _ s
  rw [adjust_upto b n hb]
  show wpAny _ _ (pure ((0 : Int), (1 : Int), Builtin.Slice.slicePlaces (0 : Int) (b : Int) 1)) _ _ s
  rw [places_upto b]
  exact wpAny_pure h
theorem getItem_tup2 {t sl : Addr} {v1 v2 v3 : Value} {u : Tok} {Q : Value → Shared → Prop} (ht : IsTup s.heap t #[v1, v2, v3]) (hs : s.heap.IsSliceOf sl .none (.int 2 u) .none)
    (h : Q (.ref s.heap.objs.size) { s with heap := s.heap.push (tupO #[v1, v2]) }) : wpAny (model prog w) A (getItem (.ref t) (.ref sl)) Q E s := by
  obtain ⟨os, hos, hcs, hds⟩ := id hs
  have hTs : s.TypeIs (.ref sl) "slice" := ⟨os, hos, hcs⟩
  have hok : sizeOk (.seq (#[v1, v2] : Array Value)) := by show (2 : Nat) ≤ sizeLine; decide
  unfold getItem
  refine wpAny_holding ?_
  refine wpAny_bind (wpAny_sequenceKey ht.typeIs (by decide) ?_)
  refine wpAny_bind (wpAny_callSpecial?_slot (name := Str.ofString "__getitem__") ht.typeIs slot_tuple_getitem
    (wpAny_call_entry slot_tuple_getitem ht.typeIs entry_tuple_getitem ?_ (args_tuple_getitem _ _)))
  show wpAny _ _ (Builtin.Tuple.tupleItemsOf (.ref t) >>= _) _ _ s
  refine wpAny_bind (tupleItemsOf_ ht ?_)
  refine wpAny_bind (wpAny_typeOf hTs ?_)
  rw [if_pos (by decide)]
  refine wpAny_bind (sliceApplied_upto (b := 2) (n := 3) hs (by decide) ?_)
  show wpAny _ _ (if ((0 : Int) == 0 && (1 : Int) == 1 && (2 : Nat) == 3) = true then _ else _) _ _ s
  rw [if_neg (by decide)]
  have e : ((List.range 2).filterMap fun (k : Nat) => (#[v1, v2, v3] : Array Value)[((0 : Int) + (k : Int) * 1).toNat]?).toArray = #[v1, v2] := rfl
  first
    | exact wpAny_bind (m := Builtin.Tuple.tupleExact _) (wpAny_newObj_type (wpAny_pure ⟨_, rfl, wpAny_pure h⟩) hok)
    | exact wpAny_bind (m := Builtin.Tuple.tupleExact _) (wpAny_newObj_type (wpAny_bind (wpAny_pure (wpAny_pure ⟨_, rfl, wpAny_pure h⟩))) hok)
    | exact wpAny_bind (wpAny_bind (m := Builtin.Tuple.tupleExact _) (wpAny_newObj_type (wpAny_pure (wpAny_pure ⟨_, rfl, wpAny_pure h⟩)) hok))
    | exact wpAny_bind (wpAny_bind (m := Builtin.Tuple.tupleExact _) (wpAny_newObj_type (wpAny_pure ⟨_, rfl, wpAny_pure h⟩) hok))
end
theorem notIn_of_in {M : Model} {A : Around} {E : Value → Shared → Prop} {s : Shared} {a d : Value} {Q : Value → Shared → Prop} (h : wpAny M A (compareOp .In a d) (fun v s' => ∀ b, v = .bool b → Q (.bool (!b)) s') E s) : wpAny M A (compareOp .NotIn a d) Q E s := by
  intro Γ p hΓ
  have h1 := h Γ p hΓ
  have e1 : compareOp .In a d = contains d a >>= fun b => pure (.bool b) := rfl
  have e2 : compareOp .NotIn a d = contains d a >>= fun b => pure (.bool (!b)) := rfl
  rw [e1, Sem.wp_bind'] at h1
  rw [e2, Sem.wp_bind']
  exact Sem.wp_mono _ Γ _ (fun b p1 s1 h2 => h2 b rfl) (fun _ _ _ z => z) p s h1
section
variable {w : World} {A : Around} {E : Value → Shared → Prop} {s : Shared} {d a L : Addr} {h₀ : Heap} {m : Str → Option Value} {news n1 n2 : List (Addr × Obj)} {k : Ky} {xs : List (Ky × Addr × Value)}
end
section
variable {prog : Program} {w : World} {A : Around} {E : Value → Shared → Prop} {s : Shared} {L : Addr} {h₀ : Heap} {m : Str → Option Value} {news : List (Addr × Obj)}
end
end Mine
end F_BaseE
section F_BaseF
open PySem PySem.W PySem.Spec PySem.Calls PyProof.Rows
namespace Mine
theorem map_erase {α β : Type} (f : α → β) : ∀ (l : List α) (j : Nat), (l.map f).eraseIdx j = (l.eraseIdx j).map f
  | [], _ => by simp
  | _ :: _, 0 => by simp
  | x :: l, j + 1 => by simp [map_erase f l j]
theorem erase_filter {β : Type} {k : Ky} : ∀ {xs : List (Ky × β)} {j : Nat} {q : β}, (xs.map (·.1)).Nodup → xs[j]? = some (k, q) → xs.eraseIdx j = xs.filter fun x => decide (x.1 ≠ k)
  | [], j, q, _, h => by simp at h
  | x :: xs, 0, q, hn, h => by
    simp only [List.getElem?_cons_zero, Option.some.injEq] at h
    subst h
    rw [List.map_cons, List.nodup_cons] at hn
    rw [List.eraseIdx_cons_zero, List.filter_cons]
    simp only [ne_eq, not_true_eq_false, decide_false, Bool.false_eq_true, if_false]
    symm
    rw [List.filter_eq_self]
    intro y hy
    simp only [ne_eq, decide_not, Bool.not_eq_true', decide_eq_false_iff_not]
    intro e
    exact hn.1 (List.mem_map.mpr ⟨y, hy, e⟩)
  | x :: xs, j + 1, q, hn, h => by
    rw [List.map_cons, List.nodup_cons] at hn
    simp only [List.getElem?_cons_succ] at h
    have hk : x.1 ≠ k := fun e => hn.1 (List.mem_map.mpr ⟨_, List.mem_of_getElem? h, e.symm⟩)
    rw [List.eraseIdx_cons_succ, List.filter_cons, if_pos (by simpa using hk), erase_filter hn.2 h]
section
variable {prog : Program} {w : World} {A : Around} {E : Value → Shared → Prop} {s : Shared} {d a : Addr} {k : Ky} {xs : List (Ky × Addr × Value)}
theorem dict_len {Q : Value → Shared → Prop} (lo : (d == sysModules) = false) (hm : s.heap.DictOfH (kyK prog w) d xs) (hfit : (xs.length : Int) < 2 ^ 63)
    (h : Q (.int xs.length (s.toks + 1)) { s with toks := s.toks + 1 + 1 }) : wpAny (model prog w) A (call (.builtin "len") [.ref d]) Q E s := by
  have hT := hm.typeIs
  obtain ⟨o, es, ep, ho, hc, hdat, he, hi, hn⟩ := hm
  have hsz : es.size = xs.length := size_of_entries he
  refine Calls.call_function_entry kind_len plain_len entry_len (args_len1 _) ?_
  unfold Builtin.«len»
  refine wpAny_bind (m := oneArg "len" _) (wpAny_pure ?_)
  refine wpAny_bind (m := callSpecial? (.ref d) (Str.ofString "__len__")) (wpAny_callSpecial?_slot (name := Str.ofString "__len__") hT F.slot_dict_len
    (wpAny_call_entry F.slot_dict_len hT F.entry_dict_len ?_ (F.args_dict_len_1 _)))
  show wpAny _ _ (dictSize d >>= _) _ _ s
  unfold dictSize
  refine wpAny_bind (wpAny_bind (wpAny_dictEntries ho hdat (wpAny_pure ?_)))
  show wpAny _ _ (Builtin.Dict.pendingCount d >>= _) _ _ s
  refine wpAny_bind (wpAny_pendingCount_other lo ?_)
  have e0 : ((es.size : Nat) : Int) + ((0 : Nat) : Int) = (xs.length : Int) := by rw [hsz]; simp
  show wpAny _ _ (retInt (((es.size : Nat) : Int) + ((0 : Nat) : Int))) _ _ _
  rw [e0]
  refine wpAny_ret_mkInt ?_
  show wpAny _ _ _ _ _ { s with toks := s.toks + 1 }
  refine wpAny_bind (wpAny_holding (wpAny_pure ?_))
  refine wpAny_bind (wpAny_letGo ?_)
  show wpAny _ _ (if ((xs.length : Nat) : Int) < 0 then _ else _) _ _ _
  rw [if_neg (by omega)]
  show wpAny _ _ (if ((xs.length : Nat) : Int) ≥ 2 ^ 63 then _ else _) _ _ _
  rw [if_neg (by omega)]
  exact wpAny_bind (wpAny_mkInt (wpAny_pure ⟨_, rfl, h⟩))
theorem dict_method {name : Str} {id : String} {pl : Sem Bool} {Q : Value × List Value → Shared → Prop} (slot : Slot "dict" name id) (hty : typeOf (.builtin id) = pure (.type "method_descriptor"))
    (hm : s.heap.DictOfH (kyK prog w) d xs) (h : Q (.builtin id, [.ref d]) s) : wpAny (model prog w) A (getMethod (.ref d) name pl) Q E s := by
  have hT := hm.typeIs
  obtain ⟨o, es, ep, ho, hc, hdat, he, hi, hn⟩ := hm
  exact getMethod_builtin hT PySem.F.plainAttrs_dict slot hty (fun a e => by cases e; exact ⟨o, ho, hc.2.1⟩) h
theorem dict_pop {p : Addr × Value} {Q : Value → Shared → Prop} (hu : A.units + 21 < cLine) (hkey : isKy s.heap k a) (hm : s.heap.DictOfH (kyK prog w) d xs) (hp : atKey xs k = some p) (hsz : xs.length ≤ sizeLine)
    (h : ∀ h', h'.DictOfH (kyK prog w) d (xs.filter fun x => decide (x.1 ≠ k)) → Heap.SameBut d s.heap h' → Q p.2 { s with heap := h', toks := s.toks + kyDraws k }) :
    wpAny (model prog w) A (call (.builtin "dict.pop") [.ref d, .ref a]) Q E s := by
  have hT := hm.typeIs
  obtain ⟨o, es, ep, ho, hc, hd, he, his, hn⟩ := hm
  refine wpAny_call_entry F.slot_dict_pop hT F.entry_dict_pop ?_ (F.args_dict_pop_2 _ _)
  unfold Builtin.«dict.pop»
  refine wpAny_bind ?_
  unfold Builtin.Dict.keyAndDefault
  refine wpAny_bind (wpAny_notOrdered_dict hT ?_)
  show wpAny _ _ (pure (d, Value.ref a, none)) _ _ s
  refine wpAny_pure ?_
  have hsz' : es.size = xs.length := size_of_entries he
  have hpart : (keyPart (.ref a)).isSome = false := rfl
  have hne : es.isEmpty = false := by
    cases q : xs with
    | nil => rw [q] at hp; cases hp
    | cons x r => rw [q] at hsz'; simp at hsz'; simp [Array.isEmpty, hsz']
  simp only [hpart, Bool.false_eq_true, if_false]
  refine wpAny_bind (wpAny_dictEntries ho hd (wpAny_bind (wpAny_pure ?_)))
  rw [hne]
  simp only [Bool.false_eq_true, if_false]
  refine wpAny_bind ?_
  unfold Builtin.Dict.takeOut
  refine wpAny_holding ?_
  refine wpAny_bind (ky_pyHash (show A.units + 1 + 20 < cLine by omega) hkey ?_)
  refine wpAny_bind (wpAny_dictFind_heap (knd := kyK prog w) (s := { s with toks := s.toks + kyDraws k }) (show A.units + 1 + 20 < cLine by omega) hkey ho hd he his hn ?_ ?_)
  · intro hno
    rw [atKey_none_of_get hno] at hp; cases hp
  · intro j q hj
    rw [atKey_of_get hn hj] at hp
    cases hp
    refine wpAny_bind (wpAny_dictEntries (s := { s with toks := s.toks + kyDraws k }) ho hd ?_)
    rw [entry_at he j, hj]
    dsimp only [Option.map]
    refine wpAny_bind (wpAny_updateDictKeys (hz := by omega) (s := { s with toks := s.toks + kyDraws k }) ho hd (wpAny_pure ?_))
    simp only [Option.isNone_some, Bool.false_eq_true, if_false]
    refine wpAny_bind (wpAny_letGo (wpAny_pure ⟨_, rfl, ?_⟩))
    refine h _ ⟨_, _, ep + 1, Heap.get?_update_self _ ho (Obj.isFreed_of_dict (Obj.data_mapDictKeys hd _)), hc.mapDictKeys _, Obj.data_mapDictKeys hd _, ?_, ?_, ?_⟩ (Heap.SameBut.update ..)
    · rw [← erase_filter hn hj, ← map_erase, ← he]
      obtain ⟨l⟩ := es
      simp
    · intro x hx
      exact (kyK prog w).keeps (his x (List.mem_filter.mp hx).1) ho hd (Heap.SameBut.update ..)
    · exact (List.Sublist.map _ List.filter_sublist).nodup hn
end
end Mine
end F_BaseF
section F_BaseG
open PySem PySem.W PySem.Spec PySem.Calls PyProof.Rows
namespace Mine
section
variable {M : Model} {A : Around} {E : Value → Shared → Prop}
end
section
variable {w : World} {A : Around} {E : Value → Shared → Prop} {s : Shared} {h₀ : Heap} {m : Str → Option Value} {env : Env} {I : Addr} {n : Nat} {tgt : Expr} {names : List Str} {P : Nat → List Value → Prop} {it : Nat → Heap → Prop} {Rest : Heap → Prop}
end
section
variable {w : World} {A : Around} {E : Value → Shared → Prop} {s : Shared} {h₀ : Heap} {L : Addr} {m : Str → Option Value} {env : Env}
end
section
variable {w : World} {A : Around}
end
end Mine
end F_BaseG
section F_BaseH
open PySem PySem.W PySem.Spec PySem.Calls PyProof.Rows
namespace Mine
noncomputable def DEnt (h : Heap) (d : Addr) (es : Array DictEntry) (ep : Nat) : Prop := ∃ o, h.get? d = some o ∧ o.ExactDict ∧ o.data = .dict es ep
theorem DEnt.at_ {h h' : Heap} {d es ep} (x : DEnt h d es ep) (e : ∀ o, h.get? d = some o → h'.get? d = some o) : DEnt h' d es ep := let ⟨o, a, b⟩ := x; ⟨o, e _ a, b⟩
theorem DEnt.typeIs {s : Shared} {d es ep} (x : DEnt s.heap d es ep) : s.TypeIs (.ref d) "dict" := let ⟨o, a, b, _⟩ := x; ⟨o, a, b.1⟩
theorem dEnt_of {prog : Program} {w : World} {h : Heap} {d : Addr} {xs : List (Ky × Addr × Value)} (D : h.DictOfH (kyK prog w) d xs) : ∃ es ep, DEnt h d es ep ∧ es.toList = xs.map (entryOfKey (kyK prog w)) := by
  obtain ⟨o, es, ep, a, b, c, e, _⟩ := D
  exact ⟨es, ep, ⟨o, a, b, c⟩, e⟩
section
variable {prog : Program} {w : World} {A : Around} {E : Value → Shared → Prop} {s : Shared}
theorem dict_iter {d : Addr} {es : Array DictEntry} {ep : Nat} {Q : Value → Shared → Prop} (lo : (d == sysModules) = false) (hm : DEnt s.heap d es ep)
    (hQ : Q (.ref s.heap.objs.size) { s with heap := s.heap.push { cls := .type "dict_keyiterator", data := .fields #[.ref d, .int 0 0, .int es.size 0, .int ep 0] } }) :
    wpAny (model prog w) A (pyIter (.ref d)) Q E s := by
  have hT := hm.typeIs
  obtain ⟨o, ho, hc, hdat⟩ := hm
  refine wpAny_pyIter_slot hT F.slot_dict_iter (wpAny_call_entry F.slot_dict_iter hT F.entry_dict_iter ?_ (F.args_dict_iter_1 _))
  unfold Builtin.«dict.__iter__»
  refine wpAny_bind ?_
  unfold Builtin.Dict.dictSlotNone
  refine wpAny_bind (wpAny_notOrdered_dict hT ?_)
  show wpAny _ _ (pure (Value.ref d)) _ _ s
  refine wpAny_pure ?_
  show wpAny _ _ (Builtin.Dict.showsAll d >>= _) _ _ s
  unfold Builtin.Dict.showsAll
  rw [if_neg (by rw [lo]; exact Bool.false_ne_true)]
  refine wpAny_bind (wpAny_pure ?_)
  refine wpAny_bind (wpAny_dictEntries ho hdat ?_)
  refine wpAny_bind (wpAny_dictEpoch ho hdat ?_)
  refine wpAny_bind (wpAny_newObj_type (wpAny_pure ⟨_, rfl, "dict_keyiterator", _, ⟨_, Heap.get?_push_size _ rfl, rfl⟩, F.slot_dict_keyiterator_next.lookup, ?_⟩))
  simpa [rawInt] using hQ
theorem dict_values {d : Addr} {es : Array DictEntry} {ep : Nat} {Q : Value → Shared → Prop} (lo : (d == sysModules) = false) (hm : DEnt s.heap d es ep)
    (h : Q (.ref s.heap.objs.size) { s with heap := s.heap.push { cls := .type "dict_values", data := .fields #[.ref d] } }) : wpAny (model prog w) A (call (.builtin "dict.values") [.ref d]) Q E s := by
  have hT := hm.typeIs
  refine wpAny_call_entry F.slot_dict_values hT F.entry_dict_values ?_ (F.args_dict_values_1 _)
  unfold Builtin.«dict.values»
  refine wpAny_bind ?_
  unfold Builtin.Dict.noArgs
  refine wpAny_bind (wpAny_notOrdered_dict hT ?_)
  show wpAny _ _ (pure d) _ _ s
  refine wpAny_pure ?_
  show wpAny _ _ (Builtin.Dict.showsAll d >>= _) _ _ s
  unfold Builtin.Dict.showsAll
  rw [if_neg (by rw [lo]; exact Bool.false_ne_true)]
  refine wpAny_bind (wpAny_pure ?_)
  exact wpAny_bind (wpAny_newObj_type (wpAny_pure ⟨_, rfl, h⟩))
theorem iter_values {v d : Addr} {es : Array DictEntry} {ep : Nat} {Q : Value → Shared → Prop} (hv : s.heap.IsValuesView v d) (hm : DEnt s.heap d es ep)
    (hQ : Q (.ref s.heap.objs.size) { s with heap := s.heap.push { cls := .type "dict_valueiterator", data := .fields #[.ref d, .int 0 0, .int es.size 0, .int ep 0] } }) :
    wpAny (model prog w) A (pyIter (.ref v)) Q E s := by
  obtain ⟨ov, hov, hcv, hdv⟩ := id hv
  obtain ⟨o, ho, hc, hdat⟩ := hm
  refine wpAny_pyIter_slot hv.typeIs F.slot_dict_values_iter (wpAny_call_entry F.slot_dict_values_iter hv.typeIs F.entry_dict_values_iter ?_ (F.args_dict_values_iter_1 _))
  unfold Builtin.«dict_values.__iter__»
  refine wpAny_bind (wpAny_pure ?_)
  refine wpAny_bind ?_
  unfold Builtin.Dict_items.dictOf
  refine wpAny_bind (wpAny_field hov hdv (x := .ref d) rfl (wpAny_pure ?_))
  refine wpAny_bind ?_
  unfold Builtin.Dict_items.newIterator
  refine wpAny_bind (wpAny_dictEntries ho hdat ?_)
  refine wpAny_bind (wpAny_dictEpoch ho hdat ?_)
  have hown : Builtin.Dict_items.ownsTuple "dict_valueiterator" = false := by decide
  simp only [hown, Bool.false_eq_true, if_false]
  refine wpAny_newObj_type (wpAny_pure ⟨_, rfl, "dict_valueiterator", _, ⟨_, Heap.get?_push_size _ rfl, rfl⟩, F.slot_dict_valueiterator_next.lookup, ?_⟩)
  simpa [rawInt] using hQ
theorem dict_items {d : Addr} {es : Array DictEntry} {ep : Nat} {Q : Value → Shared → Prop} (lo : (d == sysModules) = false) (hm : DEnt s.heap d es ep)
    (h : Q (.ref s.heap.objs.size) { s with heap := s.heap.push { cls := .type "dict_items", data := .fields #[.ref d] } }) : wpAny (model prog w) A (call (.builtin "dict.items") [.ref d]) Q E s := by
  have hT := hm.typeIs
  refine wpAny_call_entry F.slot_dict_items hT F.entry_dict_items ?_ (F.args_dict_items_1 _)
  unfold Builtin.«dict.items»
  refine wpAny_bind ?_
  unfold Builtin.Dict.noArgs
  refine wpAny_bind (wpAny_notOrdered_dict hT ?_)
  show wpAny _ _ (pure d) _ _ s
  refine wpAny_pure ?_
  show wpAny _ _ (Builtin.Dict.showsAll d >>= _) _ _ s
  unfold Builtin.Dict.showsAll
  rw [if_neg (by rw [lo]; exact Bool.false_ne_true)]
  refine wpAny_bind (wpAny_pure ?_)
  exact wpAny_bind (wpAny_newObj_type (wpAny_pure ⟨_, rfl, h⟩))
theorem iter_items {v d : Addr} {es : Array DictEntry} {ep : Nat} {Q : Value → Shared → Prop} (hv : s.heap.IsItemsView v d) (hm : DEnt s.heap d es ep)
    (hQ : Q (.ref s.heap.objs.size) { s with heap := s.heap.push { cls := .type "dict_itemiterator", data := .fields #[.none, .bool false, .ref d, .int 0 0, .int es.size 0, .int ep 0, .none, .none] } }) :
    wpAny (model prog w) A (pyIter (.ref v)) Q E s := by
  obtain ⟨ov, hov, hcv, hdv⟩ := id hv
  obtain ⟨o, ho, hc, hdat⟩ := hm
  refine wpAny_pyIter_slot hv.typeIs F.slot_dict_items_iter (wpAny_call_entry F.slot_dict_items_iter hv.typeIs F.entry_dict_items_iter ?_ (F.args_dict_items_iter_1 _))
  unfold Builtin.«dict_items.__iter__»
  refine wpAny_bind (wpAny_pure ?_)
  refine wpAny_bind ?_
  unfold Builtin.Dict_items.dictOf
  refine wpAny_bind (wpAny_field hov hdv (x := .ref d) rfl (wpAny_pure ?_))
  refine wpAny_bind ?_
  unfold Builtin.Dict_items.newIterator
  refine wpAny_bind (wpAny_dictEntries ho hdat ?_)
  refine wpAny_bind (wpAny_dictEpoch ho hdat ?_)
  have hown : Builtin.Dict_items.ownsTuple "dict_itemiterator" = true := by decide
  simp only [hown, if_true]
  refine wpAny_newObj_type (wpAny_pure ⟨_, rfl, "dict_itemiterator", _, ⟨_, Heap.get?_push_size _ rfl, rfl⟩, F.slot_dict_itemiterator_next.lookup, ?_⟩)
    (by simp only [sizeOk, Builtin.Dict_items.ownedTupleFields, List.size_toArray, List.length_append, List.length_cons, List.length_nil, sizeLine_eq]; omega)
  simpa [rawInt, Builtin.Dict_items.ownedTupleFields] using hQ
theorem next_keyiter {it d : Addr} {i ep : Nat} {es : Array DictEntry} {Q : Option Value → Shared → Prop} (hit : s.heap.IsKeyIter it d i es.size ep)
    (hm : DEnt s.heap d es ep) (hi : i < es.size)
    (hQ : ∀ h', h'.IsKeyIter it d (i + 1) es.size ep → Heap.SameBut it s.heap h' → Q (some es[i].key) { s with heap := h' }) :
    wpAny (model prog w) A (pyNext (.ref it)) Q E s := by
  obtain ⟨o, ho, hc, hd⟩ := id hit
  obtain ⟨od, hod, hcd, hdd⟩ := id hm
  unfold pyNext
  refine wpAny_bind (wpAny_attempt (wpAny_callSpecial?_slot (name := Str.ofString "__next__") hit.typeIs F.slot_dict_keyiterator_next
    (wpAny_call_entry F.slot_dict_keyiterator_next hit.typeIs F.entry_dict_keyiterator_next ?_ (F.args_dict_keyiterator_next_1 _))))
  refine wpAny_bind (wpAny_pure ?_)
  refine wpAny_bind ?_
  refine wpAny_bind ?_
  first | refine wpAny_bind (wpAny_typeNameOfWhole_keyiter hit.typeIs (wpAny_pure ?_)) | refine wpAny_bind (wpAny_typeNameOf_keyiter hit.typeIs (wpAny_pure ?_))
  refine wpAny_bind (wpAny_fieldsOf ho hd ?_)
  have hown : Builtin.Dict_items.ownsTuple "dict_keyiterator" = false := by decide
  simp only [hown, Bool.false_eq_true, if_false]
  show wpAny _ _ (if (Value.ref d == Value.none) = true then _ else _) _ _ s
  rw [if_neg (show ¬ ((Value.ref d == Value.none) = true) from Bool.false_ne_true)]
  refine wpAny_bind (wpAny_pure ?_)
  refine wpAny_bind (wpAny_dictEntries hod hdd ?_)
  rw [if_neg (by simp)]
  refine wpAny_bind (wpAny_pure ?_)
  refine wpAny_bind (wpAny_dictEpoch hod hdd ?_)
  rw [if_neg (by simp)]
  refine wpAny_pure ?_
  simp only [show ¬ ((i : Int) < 0) from by omega, if_false, Int.toNat_natCast, Array.getElem?_eq_getElem hi]
  refine wpAny_bind ?_
  first | refine wpAny_bind (wpAny_typeNameOfWhole_keyiter hit.typeIs (wpAny_pure ?_)) | refine wpAny_bind (wpAny_typeNameOf_keyiter hit.typeIs (wpAny_pure ?_))
  refine wpAny_bind (wpAny_isOneOf_keyiter hit.typeIs ?_)
  show wpAny _ _ (setField (.ref it) 1 (rawInt ((i : Int) + 1)) >>= _) _ _ s
  refine wpAny_bind (wpAny_setField ho hd (by simp) ?_)
  have hit' : (s.heap.update it (Obj.mapFields (·.setIfInBounds 1 (rawInt ((i : Int) + 1))))).IsKeyIter it d (i + 1) es.size ep :=
    ⟨_, Heap.get?_update_self _ ho (Obj.isFreed_of_fields (Obj.data_mapFields hd _)), (Obj.cls_mapFields ..).trans hc, by rw [Obj.data_mapFields hd]; simp [rawInt]⟩
  refine wpAny_bind (wpAny_holding ?_)
  refine wpAny_bind (wpAny_isOneOf_keyiter (s := { s with heap := s.heap.update it (Obj.mapFields (·.setIfInBounds 1 (rawInt ((i : Int) + 1)))) }) hit'.typeIs ?_)
  show wpAny _ _ (pure es[i].key) _ _ _
  exact wpAny_pure (wpAny_pure ⟨_, rfl, wpAny_pure (hQ _ hit' (Heap.SameBut.update ..))⟩)
theorem end_keyiter {it d : Addr} {ep : Nat} {es : Array DictEntry} {Q : Option Value → Shared → Prop} (hh : A.handled = none) (hit : s.heap.IsKeyIter it d es.size es.size ep)
    (hm : DEnt s.heap d es ep) (hQ : ∀ h', Heap.ExtBut it s.heap h' → Q none { s with heap := h' }) : wpAny (model prog w) A (pyNext (.ref it)) Q E s := by
  obtain ⟨o, ho, hc, hd⟩ := id hit
  obtain ⟨od, hod, hcd, hdd⟩ := id hm
  unfold pyNext
  refine wpAny_bind (wpAny_attempt (wpAny_callSpecial?_slot (name := Str.ofString "__next__") hit.typeIs F.slot_dict_keyiterator_next
    (wpAny_call_entry F.slot_dict_keyiterator_next hit.typeIs F.entry_dict_keyiterator_next ?_ (F.args_dict_keyiterator_next_1 _))))
  refine wpAny_bind (wpAny_pure ?_)
  refine wpAny_bind ?_
  refine wpAny_bind ?_
  first | refine wpAny_bind (wpAny_typeNameOfWhole_keyiter hit.typeIs (wpAny_pure ?_)) | refine wpAny_bind (wpAny_typeNameOf_keyiter hit.typeIs (wpAny_pure ?_))
  refine wpAny_bind (wpAny_fieldsOf ho hd ?_)
  have hown : Builtin.Dict_items.ownsTuple "dict_keyiterator" = false := by decide
  simp only [hown, Bool.false_eq_true, if_false]
  show wpAny _ _ (if (Value.ref d == Value.none) = true then _ else _) _ _ s
  rw [if_neg (show ¬ ((Value.ref d == Value.none) = true) from Bool.false_ne_true)]
  refine wpAny_bind (wpAny_pure ?_)
  refine wpAny_bind (wpAny_dictEntries hod hdd ?_)
  rw [if_neg (by simp)]
  refine wpAny_bind (wpAny_pure ?_)
  refine wpAny_bind (wpAny_dictEpoch hod hdd ?_)
  rw [if_neg (by simp)]
  refine wpAny_pure ?_
  simp only [show ¬ ((es.size : Int) < 0) from by omega, if_false, Int.toNat_natCast, Array.getElem?_eq_none (Nat.le_refl es.size)]
  refine wpAny_bind ?_
  first | refine wpAny_bind (wpAny_typeNameOfWhole_keyiter hit.typeIs (wpAny_pure ?_)) | refine wpAny_bind (wpAny_typeNameOf_keyiter hit.typeIs (wpAny_pure ?_))
  show wpAny _ _ (setField (.ref it) 0 .none >>= _) _ _ s
  refine wpAny_bind (wpAny_setField ho hd (by simp) ?_)
  show wpAny _ _ (newExc (.type "StopIteration") [] >>= _) _ _ _
  refine wpAny_bind ?_
  simp only [newExc, newTuple]
  refine wpAny_bind (wpAny_newObj_type ?_ (by size_fits))
  refine wpAny_bind (m := firstArgMember _ _) (wpAny_of_eq (a := Value.none) (by first | rfl | (simp only [firstArgMember]; rfl)) ?_)
  refine wpAny_newObj_type ?_ (by size_fits)
  simp only [raiseNew]
  refine wpAny_bind (wpAny_handled ?_)
  rw [show A.in1.handled = none from hh]
  refine wpAny_bind (wpAny_pure (wpAny_throw ?_))
  refine wpAny_bind (wpAny_isInstance (T := "StopIteration") (b := true) ⟨_, Heap.get?_push_size _ rfl, rfl⟩ isSubtype_stop ?_)
  exact wpAny_pure (hQ _ (((Heap.SameBut.update ..).extBut.push _).push _))
theorem next_valiter {it d : Addr} {i ep : Nat} {es : Array DictEntry} {Q : Option Value → Shared → Prop} (hit : s.heap.IsValIter it d i es.size ep)
    (hm : DEnt s.heap d es ep) (hi : i < es.size)
    (hQ : ∀ h', h'.IsValIter it d (i + 1) es.size ep → Heap.SameBut it s.heap h' → Q (some es[i].val) { s with heap := h' }) :
    wpAny (model prog w) A (pyNext (.ref it)) Q E s := by
  obtain ⟨o, ho, hc, hd⟩ := id hit
  obtain ⟨od, hod, hcd, hdd⟩ := id hm
  unfold pyNext
  refine wpAny_bind (wpAny_attempt (wpAny_callSpecial?_slot (name := Str.ofString "__next__") hit.typeIs F.slot_dict_valueiterator_next
    (wpAny_call_entry F.slot_dict_valueiterator_next hit.typeIs F.entry_dict_valueiterator_next ?_ (F.args_dict_valueiterator_next_1 _))))
  refine wpAny_bind (wpAny_pure ?_)
  refine wpAny_bind ?_
  refine wpAny_bind ?_
  first | refine wpAny_bind (wpAny_typeNameOfWhole_valiter hit.typeIs (wpAny_pure ?_)) | refine wpAny_bind (wpAny_typeNameOf_valiter hit.typeIs (wpAny_pure ?_))
  refine wpAny_bind (wpAny_fieldsOf ho hd ?_)
  have hown : Builtin.Dict_items.ownsTuple "dict_valueiterator" = false := by decide
  simp only [hown, Bool.false_eq_true, if_false]
  show wpAny _ _ (if (Value.ref d == Value.none) = true then _ else _) _ _ s
  rw [if_neg (show ¬ ((Value.ref d == Value.none) = true) from Bool.false_ne_true)]
  refine wpAny_bind (wpAny_pure ?_)
  refine wpAny_bind (wpAny_dictEntries hod hdd ?_)
  rw [if_neg (by simp)]
  refine wpAny_bind (wpAny_pure ?_)
  refine wpAny_bind (wpAny_dictEpoch hod hdd ?_)
  rw [if_neg (by simp)]
  refine wpAny_pure ?_
  simp only [show ¬ ((i : Int) < 0) from by omega, if_false, Int.toNat_natCast, Array.getElem?_eq_getElem hi]
  refine wpAny_bind ?_
  first | refine wpAny_bind (wpAny_typeNameOfWhole_valiter hit.typeIs (wpAny_pure ?_)) | refine wpAny_bind (wpAny_typeNameOf_valiter hit.typeIs (wpAny_pure ?_))
  refine wpAny_bind (wpAny_isOneOf_valiter hit.typeIs ?_)
  show wpAny _ _ (setField (.ref it) 1 (rawInt ((i : Int) + 1)) >>= _) _ _ s
  refine wpAny_bind (wpAny_setField ho hd (by simp) ?_)
  have hit' : (s.heap.update it (Obj.mapFields (·.setIfInBounds 1 (rawInt ((i : Int) + 1))))).IsValIter it d (i + 1) es.size ep :=
    ⟨_, Heap.get?_update_self _ ho (Obj.isFreed_of_fields (Obj.data_mapFields hd _)), (Obj.cls_mapFields ..).trans hc, by rw [Obj.data_mapFields hd]; simp [rawInt]⟩
  refine wpAny_bind (wpAny_holding ?_)
  refine wpAny_bind (wpAny_isOneOf_valiter (s := { s with heap := s.heap.update it (Obj.mapFields (·.setIfInBounds 1 (rawInt ((i : Int) + 1)))) }) hit'.typeIs ?_)
  refine wpAny_bind (wpAny_isOneOf_valiter (s := { s with heap := s.heap.update it (Obj.mapFields (·.setIfInBounds 1 (rawInt ((i : Int) + 1)))) }) hit'.typeIs ?_)
  show wpAny _ _ (pure es[i].val) _ _ _
  exact wpAny_pure (wpAny_pure ⟨_, rfl, wpAny_pure (hQ _ hit' (Heap.SameBut.update ..))⟩)
theorem end_valiter {it d : Addr} {ep : Nat} {es : Array DictEntry} {Q : Option Value → Shared → Prop} (hh : A.handled = none) (hit : s.heap.IsValIter it d es.size es.size ep)
    (hm : DEnt s.heap d es ep) (hQ : ∀ h', Heap.ExtBut it s.heap h' → Q none { s with heap := h' }) : wpAny (model prog w) A (pyNext (.ref it)) Q E s := by
  obtain ⟨o, ho, hc, hd⟩ := id hit
  obtain ⟨od, hod, hcd, hdd⟩ := id hm
  unfold pyNext
  refine wpAny_bind (wpAny_attempt (wpAny_callSpecial?_slot (name := Str.ofString "__next__") hit.typeIs F.slot_dict_valueiterator_next
    (wpAny_call_entry F.slot_dict_valueiterator_next hit.typeIs F.entry_dict_valueiterator_next ?_ (F.args_dict_valueiterator_next_1 _))))
  refine wpAny_bind (wpAny_pure ?_)
  refine wpAny_bind ?_
  refine wpAny_bind ?_
  first | refine wpAny_bind (wpAny_typeNameOfWhole_valiter hit.typeIs (wpAny_pure ?_)) | refine wpAny_bind (wpAny_typeNameOf_valiter hit.typeIs (wpAny_pure ?_))
  refine wpAny_bind (wpAny_fieldsOf ho hd ?_)
  have hown : Builtin.Dict_items.ownsTuple "dict_valueiterator" = false := by decide
  simp only [hown, Bool.false_eq_true, if_false]
  show wpAny _ _ (if (Value.ref d == Value.none) = true then _ else _) _ _ s
  rw [if_neg (show ¬ ((Value.ref d == Value.none) = true) from Bool.false_ne_true)]
  refine wpAny_bind (wpAny_pure ?_)
  refine wpAny_bind (wpAny_dictEntries hod hdd ?_)
  rw [if_neg (by simp)]
  refine wpAny_bind (wpAny_pure ?_)
  refine wpAny_bind (wpAny_dictEpoch hod hdd ?_)
  rw [if_neg (by simp)]
  refine wpAny_pure ?_
  simp only [show ¬ ((es.size : Int) < 0) from by omega, if_false, Int.toNat_natCast, Array.getElem?_eq_none (Nat.le_refl es.size)]
  refine wpAny_bind ?_
  first | refine wpAny_bind (wpAny_typeNameOfWhole_valiter hit.typeIs (wpAny_pure ?_)) | refine wpAny_bind (wpAny_typeNameOf_valiter hit.typeIs (wpAny_pure ?_))
  show wpAny _ _ (setField (.ref it) 0 .none >>= _) _ _ s
  refine wpAny_bind (wpAny_setField ho hd (by simp) ?_)
  show wpAny _ _ (newExc (.type "StopIteration") [] >>= _) _ _ _
  refine wpAny_bind ?_
  simp only [newExc, newTuple]
  refine wpAny_bind (wpAny_newObj_type ?_ (by size_fits))
  refine wpAny_bind (m := firstArgMember _ _) (wpAny_of_eq (a := Value.none) (by first | rfl | (simp only [firstArgMember]; rfl)) ?_)
  refine wpAny_newObj_type ?_ (by size_fits)
  simp only [raiseNew]
  refine wpAny_bind (wpAny_handled ?_)
  rw [show A.in1.handled = none from hh]
  refine wpAny_bind (wpAny_pure (wpAny_throw ?_))
  refine wpAny_bind (wpAny_isInstance (T := "StopIteration") (b := true) ⟨_, Heap.get?_push_size _ rfl, rfl⟩ isSubtype_stop ?_)
  exact wpAny_pure (hQ _ (((Heap.SameBut.update ..).extBut.push _).push _))
end
end Mine
end F_BaseH
section F_BaseI
open PySem PySem.W PySem.Spec PySem.Calls PyProof.Rows
namespace Mine
section
variable {prog : Program} {w : World} {A : Around} {E : Value → Shared → Prop} {s : Shared}
theorem next_itemiter {it d : Addr} {i ep : Nat} {es : Array DictEntry} {ok ov : Value} {Q : Option Value → Shared → Prop} (hit : IsItemIter s.heap it d i es.size ep ok ov)
    (hm : DEnt s.heap d es ep) (hi : i < es.size)
    (hQ : ∀ h', IsItemIterOut h' it d (i + 1) es.size ep es[i].key es[i].val s.heap.objs.size →
      h'.get? s.heap.objs.size = some (tupO #[es[i].key, es[i].val]) →
      (∀ b o, b ≠ it → s.heap.get? b = some o → h'.get? b = some o) → Q (some (.ref s.heap.objs.size)) { s with heap := h' }) :
    wpAny (model prog w) A (pyNext (.ref it)) Q E s := by
  obtain ⟨hp, g, dr, tk, os⟩ := s
  obtain ⟨od, hod, hcd, hdd⟩ := id hm
  have hT : Shared.TypeIs ⟨hp, g, dr, tk, os⟩ (.ref it) "dict_itemiterator" := ⟨_, hit, rfl⟩
  unfold pyNext
  refine wpAny_bind (wpAny_attempt (wpAny_callSpecial?_slot (name := Str.ofString "__next__") hT F.slot_dict_itemiterator_next
    (wpAny_call_entry F.slot_dict_itemiterator_next hT F.entry_dict_itemiterator_next ?_ (F.args_dict_itemiterator_next_1 _))))
  refine wpAny_bind (wpAny_pure ?_)
  refine wpAny_bind ?_
  refine wpAny_bind ?_
  first | refine wpAny_bind (wpAny_typeNameOfWhole_itemiter hT (wpAny_pure ?_)) | refine wpAny_bind (wpAny_typeNameOf_itemiter hT (wpAny_pure ?_))
  refine wpAny_bind (wpAny_fieldsOf hit rfl ?_)
  have hown : Builtin.Dict_items.ownsTuple "dict_itemiterator" = true := by decide
  simp only [hown, if_true]
  show wpAny _ _ (if (Value.ref d == Value.none) = true then _ else _) _ _ _
  rw [if_neg (show ¬ ((Value.ref d == Value.none) = true) from Bool.false_ne_true)]
  refine wpAny_bind (wpAny_pure ?_)
  refine wpAny_bind (wpAny_dictEntries hod hdd ?_)
  rw [if_neg (by simp)]
  refine wpAny_bind (wpAny_pure ?_)
  refine wpAny_bind (wpAny_dictEpoch hod hdd ?_)
  rw [if_neg (by simp)]
  refine wpAny_pure ?_
  simp only [show ¬ ((i : Int) < 0) from by omega, if_false, Int.toNat_natCast, Array.getElem?_eq_getElem hi]
  refine wpAny_bind ?_
  first | refine wpAny_bind (wpAny_typeNameOfWhole_itemiter hT (wpAny_pure ?_)) | refine wpAny_bind (wpAny_typeNameOf_itemiter hT (wpAny_pure ?_))
  refine wpAny_bind (wpAny_isOneOf_itemiter hT ?_)
  show wpAny _ _ (setField (.ref it) 3 (rawInt ((i : Int) + 1)) >>= _) _ _ ⟨hp, g, dr, tk, os⟩
  refine wpAny_bind (wpAny_setField_rec hit (by simp) fun h₁ he₁ hs₁ => ?_)
  replace hs₁ : Heap.SameBut it hp h₁ := hs₁
  replace he₁ : IsItemIter h₁ it d (i + 1) es.size ep ok ov := by
    have e : ((i + 1 : Nat) : Int) = (i : Int) + 1 := by lia
    unfold IsItemIter; rw [e]; simpa [rawInt] using he₁
  have hT₁ : Shared.TypeIs ⟨h₁, g, dr, tk, os⟩ (.ref it) "dict_itemiterator" := ⟨_, he₁, rfl⟩
  refine wpAny_bind (wpAny_holding ?_)
  refine wpAny_bind (wpAny_isOneOf_itemiter hT₁ ?_)
  refine wpAny_bind (wpAny_isOneOf_itemiter hT₁ ?_)
  show wpAny _ _ (Builtin.Dict_items.pairFromOwner (.ref it) 6 es[i].key es[i].val) _ _ ⟨h₁, g, dr, tk, os⟩
  unfold Builtin.Dict_items.pairFromOwner
  refine wpAny_bind (wpAny_newTuple ?_)
  have he₂ : IsItemIter (h₁.push { cls := .type "tuple", data := .seq #[es[i].key, es[i].val] }) it d (i + 1) es.size ep ok ov := Heap.get?_push_of_some _ he₁
  generalize hh₂ : h₁.push { cls := .type "tuple", data := .seq #[es[i].key, es[i].val] } = h₂ at he₂
  have hz₁ : h₁.objs.size = hp.objs.size := hs₁.1
  have hil : it < hp.objs.size := Heap.lt_size hit
  have ht₂ : h₂.get? hp.objs.size = some (tupO #[es[i].key, es[i].val]) := by rw [← hh₂, ← hz₁]; exact Heap.get?_push_size _ rfl
  have hk₂ : ∀ b o, b ≠ it → hp.get? b = some o → h₂.get? b = some o := fun b o hb e => by rw [← hh₂]; exact Heap.get?_push_of_some _ (hs₁.extBut b o hb e)
  show wpAny _ _ (Builtin.Dict_items.ownedTupleIsFree (.ref it) >>= _) _ _ ⟨h₂, g, dr, tk, os⟩
  rw [hz₁]
  clear hh₂ he₁ hs₁ hT₁ hz₁ h₁
  refine wpAny_bind ?_
  unfold Builtin.Dict_items.ownedTupleIsFree
  refine wpAny_bind (wpAny_field he₂ rfl (x := .none) rfl (wpAny_pure ?_))
  simp only [if_true]
  refine wpAny_bind (wpAny_field he₂ rfl (x := ok) rfl ?_)
  refine wpAny_bind (wpAny_field he₂ rfl (x := ov) rfl ?_)
  refine wpAny_bind (wpAny_setField_rec he₂ (by simp) fun h₃ he₃ hs₃ => ?_)
  replace hs₃ : Heap.SameBut it h₂ h₃ := hs₃
  replace he₃ : IsItemIter h₃ it d (i + 1) es.size ep es[i].key ov := he₃
  refine wpAny_bind (wpAny_setField_rec he₃ (by simp) fun h₄ he₄ hs₄ => ?_)
  replace hs₄ : Heap.SameBut it h₃ h₄ := hs₄
  replace he₄ : IsItemIter h₄ it d (i + 1) es.size ep es[i].key es[i].val := he₄
  refine wpAny_bind (wpAny_setField_rec he₄ (by simp) fun h₅ he₅ hs₅ => ?_)
  replace hs₅ : Heap.SameBut it h₄ h₅ := hs₅
  replace he₅ : IsItemIterOut h₅ it d (i + 1) es.size ep es[i].key es[i].val hp.objs.size := he₅
  refine wpAny_bind (wpAny_setField_rec he₅ (by simp) fun h₆ he₆ hs₆ => ?_)
  replace hs₆ : Heap.SameBut it h₅ h₆ := hs₆
  replace he₆ : IsItemIterOut h₆ it d (i + 1) es.size ep es[i].key es[i].val hp.objs.size := he₆
  refine wpAny_bind (wpAny_letGo (wpAny_pure (wpAny_pure ⟨_, rfl, wpAny_pure (hQ h₆ he₆ ?_ ?_)⟩)))
  · exact hs₆.extBut _ _ (Nat.ne_of_gt hil) (hs₅.extBut _ _ (Nat.ne_of_gt hil) (hs₄.extBut _ _ (Nat.ne_of_gt hil) (hs₃.extBut _ _ (Nat.ne_of_gt hil) ht₂)))
  · exact fun b o hb e => hs₆.extBut b o hb (hs₅.extBut b o hb (hs₄.extBut b o hb (hs₃.extBut b o hb (hk₂ b o hb e))))
theorem end_itemiter {it d : Addr} {ep : Nat} {es : Array DictEntry} {ok ov : Value} {Q : Option Value → Shared → Prop} (hh : A.handled = none) (hit : IsItemIter s.heap it d es.size es.size ep ok ov)
    (hm : DEnt s.heap d es ep) (hQ : ∀ h', Heap.ExtBut it s.heap h' → Q none { s with heap := h' }) : wpAny (model prog w) A (pyNext (.ref it)) Q E s := by
  obtain ⟨od, hod, hcd, hdd⟩ := id hm
  have hT : s.TypeIs (.ref it) "dict_itemiterator" := ⟨_, hit, rfl⟩
  unfold pyNext
  refine wpAny_bind (wpAny_attempt (wpAny_callSpecial?_slot (name := Str.ofString "__next__") hT F.slot_dict_itemiterator_next
    (wpAny_call_entry F.slot_dict_itemiterator_next hT F.entry_dict_itemiterator_next ?_ (F.args_dict_itemiterator_next_1 _))))
  refine wpAny_bind (wpAny_pure ?_)
  refine wpAny_bind ?_
  refine wpAny_bind ?_
  first | refine wpAny_bind (wpAny_typeNameOfWhole_itemiter hT (wpAny_pure ?_)) | refine wpAny_bind (wpAny_typeNameOf_itemiter hT (wpAny_pure ?_))
  refine wpAny_bind (wpAny_fieldsOf hit rfl ?_)
  have hown : Builtin.Dict_items.ownsTuple "dict_itemiterator" = true := by decide
  simp only [hown, if_true]
  show wpAny _ _ (if (Value.ref d == Value.none) = true then _ else _) _ _ s
  rw [if_neg (show ¬ ((Value.ref d == Value.none) = true) from Bool.false_ne_true)]
  refine wpAny_bind (wpAny_pure ?_)
  refine wpAny_bind (wpAny_dictEntries hod hdd ?_)
  rw [if_neg (by simp)]
  refine wpAny_bind (wpAny_pure ?_)
  refine wpAny_bind (wpAny_dictEpoch hod hdd ?_)
  rw [if_neg (by simp)]
  refine wpAny_pure ?_
  simp only [show ¬ ((es.size : Int) < 0) from by omega, if_false, Int.toNat_natCast, Array.getElem?_eq_none (Nat.le_refl es.size)]
  refine wpAny_bind ?_
  first | refine wpAny_bind (wpAny_typeNameOfWhole_itemiter hT (wpAny_pure ?_)) | refine wpAny_bind (wpAny_typeNameOf_itemiter hT (wpAny_pure ?_))
  show wpAny _ _ (setField (.ref it) 2 .none >>= _) _ _ s
  refine wpAny_bind (wpAny_setField hit rfl (by simp) ?_)
  show wpAny _ _ (newExc (.type "StopIteration") [] >>= _) _ _ _
  refine wpAny_bind ?_
  simp only [newExc, newTuple]
  refine wpAny_bind (wpAny_newObj_type ?_ (by size_fits))
  refine wpAny_bind (m := firstArgMember _ _) (wpAny_of_eq (a := Value.none) (by first | rfl | (simp only [firstArgMember]; rfl)) ?_)
  refine wpAny_newObj_type ?_ (by size_fits)
  simp only [raiseNew]
  refine wpAny_bind (wpAny_handled ?_)
  rw [show A.in1.handled = none from hh]
  refine wpAny_bind (wpAny_pure (wpAny_throw ?_))
  refine wpAny_bind (wpAny_isInstance (T := "StopIteration") (b := true) ⟨_, Heap.get?_push_size _ rfl, rfl⟩ isSubtype_stop ?_)
  exact wpAny_pure (hQ _ (((Heap.SameBut.update ..).extBut.push _).push _))
theorem entry_dict_itemiterator_iter : entryFor table "dict_itemiterator.__iter__" = some Builtin.«dict_keyiterator.__iter__» :=
  entryFor_alias (id' := "dict_keyiterator.__iter__") (by kernel_rfl) rfl (by decide +kernel) (by kernel_rfl)
theorem self_itemiter {it d : Addr} {i n ep : Nat} {ok ov : Value} {Q : Value → Shared → Prop} (hit : IsItemIter s.heap it d i n ep ok ov) (h : Q (.ref it) s) : wpAny (model prog w) A (pyIter (.ref it)) Q E s := by
  have hT : s.TypeIs (.ref it) "dict_itemiterator" := ⟨_, hit, rfl⟩
  refine wpAny_pyIter_slot hT F.slot_dict_itemiterator_iter (wpAny_call_entry F.slot_dict_itemiterator_iter hT entry_dict_itemiterator_iter ?_ (F.args_dict_itemiterator_iter_1 _))
  show wpAny _ _ (ret (.ref it)) _ _ s
  exact wpAny_pure ⟨_, rfl, "dict_itemiterator", _, hT, F.slot_dict_itemiterator_next.lookup, h⟩
theorem self_keyiter {it d : Addr} {i n ep : Nat} {Q : Value → Shared → Prop} (hit : s.heap.IsKeyIter it d i n ep) (h : Q (.ref it) s) : wpAny (model prog w) A (pyIter (.ref it)) Q E s := by
  refine wpAny_pyIter_slot hit.typeIs F.slot_dict_keyiterator_iter (wpAny_call_entry F.slot_dict_keyiterator_iter hit.typeIs F.entry_dict_keyiterator_iter ?_ (F.args_dict_keyiterator_iter_1 _))
  show wpAny _ _ (ret (.ref it)) _ _ s
  exact wpAny_pure ⟨_, rfl, "dict_keyiterator", _, hit.typeIs, F.slot_dict_keyiterator_next.lookup, h⟩
theorem self_valiter {it d : Addr} {i n ep : Nat} {Q : Value → Shared → Prop} (hit : s.heap.IsValIter it d i n ep) (h : Q (.ref it) s) : wpAny (model prog w) A (pyIter (.ref it)) Q E s := by
  refine wpAny_pyIter_slot hit.typeIs F.slot_dict_valueiterator_iter (wpAny_call_entry F.slot_dict_valueiterator_iter hit.typeIs entry_dict_valueiterator_iter ?_ (F.args_dict_valueiterator_iter_1 _))
  show wpAny _ _ (ret (.ref it)) _ _ s
  exact wpAny_pure ⟨_, rfl, "dict_valueiterator", _, hit.typeIs, F.slot_dict_valueiterator_next.lookup, h⟩
end
section
variable {w : World} {A : Around}
theorem walks_st {I : Addr} {n : Nat} {P : Nat → Value → Prop} {St St' : Nat → Heap → Prop} {fp : List Addr} (W : Walks prg w A I fp [I] n P St) (e : ∀ i h, St' i h ↔ St i h) : Walks prg w A I fp [I] n P St' where
  sub := W.sub
  frame := fun i h h' st hk => (e i h').mpr (W.frame i h h' ((e i h).mp st) hk)
  item := fun i s Q E hi st hQ => W.item i s Q E hi ((e i _).mp st) fun v h' tk hP st' hk => hQ v h' tk hP ((e _ _).mpr st') hk
  done := fun s Q E st hQ => W.done s Q E ((e _ _).mp st) hQ
  self := fun i s Q E st hQ => W.self i s Q E ((e _ _).mp st) hQ
theorem list_go {elts : List Expr} {k : Nat} {px : Pos} {I : Addr} {s : Shared} {v : Value} {Q : Unit → Shared → Prop} {E : Value → Shared → Prop} {cls : String} (hcl : ["enumerate", "zip", "dict_itemiterator", "dict_reverseitemiterator", "odict_iterator", "itertools.zip_longest", "itertools.pairwise"].contains cls = false)
    (hI : ∃ o, s.heap.get? I = some o ∧ o.cls = .type cls) (hQ : Q () s) : wpAny (model prg w) A (letOwnedTupleGo (.Tuple elts k px) (.ref I) v) Q E s := by
  obtain ⟨o, ho, hc⟩ := hI
  unfold letOwnedTupleGo
  cases v with
  | ref a =>
    refine wpAny_bind (wpAny_load ho ?_)
    rw [hc]
    cases o.data with
    | fields vs =>
      show wpAny _ _ (if (["enumerate", "zip", "dict_itemiterator", "dict_reverseitemiterator", "odict_iterator", "itertools.zip_longest", "itertools.pairwise"].contains cls && vs[0]? == some (rawInt a)) = true then _ else _) _ _ _
      rw [hcl, Bool.false_and, if_neg (by simp)]
      exact wpAny_pure hQ
    | _ => exact wpAny_pure hQ
  | _ => exact wpAny_pure hQ
end
end Mine
end F_BaseI
section F_BaseJ
open PySem PySem.W PySem.Spec PySem.Calls PyProof.Rows
namespace Mine
section
variable {w : World} {A : Around} {E : Value → Shared → Prop} {s : Shared} {h₀ : Heap} {L : Addr} {m : Str → Option Value} {env : Env}
end
section
variable {w : World} {A : Around} {E : Value → Shared → Prop} {s : Shared} {h₀ : Heap} {L : Addr} {m : Str → Option Value} {env : Env}
end
section
variable {w : World} {A : Around} {E : Value → Shared → Prop} {s : Shared} {h₀ : Heap} {L : Addr} {m : Str → Option Value} {Q : Value → Shared → Prop}
end
end Mine
end F_BaseJ
section F_BaseK
open PySem PySem.W PySem.Spec PySem.Calls PyProof.Rows
namespace Mine
section
variable {w : World} {A : Around} {E : Value → Shared → Prop} {s : Shared} {d a L : Addr} {h₀ : Heap} {m : Str → Option Value} {news n1 n2 : List (Addr × Obj)} {k : Ky} {xs : List (Ky × Addr × Value)}
end
end Mine
end F_BaseK
section F_BaseL
open PySem PySem.W PySem.Spec PySem.Calls PyProof.Rows
namespace Mine
inductive Lay : Nat → PyData → Prop
  | none {n} : Lay n .none
  | int {n i} : Lay n (.int i)
  | str {n x} : PyData.strOk x = true → Lay n (.str x)
  | tup {n ds} : (∀ d ∈ ds, Lay n d) → Lay (n + 1) (.tuple ds)
  | list {n ds} : (∀ d ∈ ds, Lay n d) → Lay (n + 1) (.list ds)
theorem canLayAll_of : ∀ {ds : List PyData}, (∀ d ∈ ds, d.canLay0 = true) → PyData.canLayAll0 ds = true
  | [], _ => rfl
  | d :: ds, h => by simp only [PyData.canLayAll0, h d (.head _), canLayAll_of fun x hx => h x (.tail _ hx), Bool.and_self]
theorem depthAll_of {n : Nat} : ∀ {ds : List PyData}, (∀ d ∈ ds, d.depth ≤ n) → PyData.depthAll ds ≤ n
  | [], _ => Nat.zero_le _
  | d :: ds, h => by
    have a := h d (.head _)
    have b := depthAll_of fun x hx => h x (.tail _ hx)
    simp only [PyData.depthAll]; omega
theorem Lay.can {n d} (x : Lay n d) : d.canLay0 = true := by
  induction x with
  | none => rfl
  | int => rfl
  | str h => simpa [PyData.canLay0] using h
  | tup _ ih => simp only [PyData.canLay0]; exact canLayAll_of ih
  | list _ ih => simp only [PyData.canLay0]; exact canLayAll_of ih
theorem Lay.dep {n d} (x : Lay n d) : d.depth ≤ n := by
  induction x with
  | none => simp [PyData.depth]
  | int => simp [PyData.depth]
  | str h => simp [PyData.depth]
  | tup _ ih => simp only [PyData.depth]; exact Nat.succ_le_succ (depthAll_of ih)
  | list _ ih => simp only [PyData.depth]; exact Nat.succ_le_succ (depthAll_of ih)
theorem eqvAll_eq : ∀ {xs ys : List PyData}, (∀ d ∈ xs, ∀ b, (∃ m, Lay m b) → PyData.eqv d b = true → d = b) → (∀ d ∈ ys, ∃ m, Lay m d) → PyData.eqvAll xs ys = true → xs = ys
  | [], [], _, _, _ => rfl
  | [], _ :: _, _, _, h => by simp [PyData.eqvAll] at h
  | _ :: _, [], _, _, h => by simp [PyData.eqvAll] at h
  | x :: xs, y :: ys, hx, hy, h => by
    simp only [PyData.eqvAll, Bool.and_eq_true] at h
    rw [hx x (.head _) y (hy y (.head _)) h.1, eqvAll_eq (fun d hd => hx d (.tail _ hd)) (fun d hd => hy d (.tail _ hd)) h.2]
theorem Lay.eq {n d} (x : Lay n d) : ∀ b, (∃ m, Lay m b) → PyData.eqv d b = true → d = b := by
  induction x with
  | none => rintro b ⟨m, y⟩ h; cases y <;> simp [PyData.eqv] at h ⊢
  | int => rintro b ⟨m, y⟩ h; cases y <;> simp [PyData.eqv] at h ⊢; exact h
  | str _ => rintro b ⟨m, y⟩ h; cases y <;> simp [PyData.eqv] at h ⊢; exact h
  | tup _ ih =>
    rintro b ⟨m, y⟩ h
    cases y with
    | tup y => rw [eqvAll_eq ih (fun d hd => ⟨_, y d hd⟩) (by simpa [PyData.eqv] using h)]
    | _ => simp [PyData.eqv] at h
  | list _ ih =>
    rintro b ⟨m, y⟩ h
    cases y with
    | list y => rw [eqvAll_eq ih (fun d hd => ⟨_, y d hd⟩) (by simpa [PyData.eqv] using h)]
    | _ => simp [PyData.eqv] at h
theorem Lay.eqv {n m a b} (x : Lay n a) (y : Lay m b) : PyData.eqv a b = true ↔ a = b :=
  ⟨x.eq b ⟨_, y⟩, fun h => h ▸ PySem.SeqAt.eqv_refl a x.can⟩
theorem lay_pl (x) {n} : Lay (n + 1) (plP x) := .tup fun d hd => by
  simp only [List.mem_cons, List.not_mem_nil, or_false] at hd
  rcases hd with rfl | rfl | rfl <;> exact .int
theorem lay_ps (ps) {n} : Lay (n + 2) (psP ps) := .tup fun d hd => by obtain ⟨x, _, rfl⟩ := List.mem_map.mp hd; exact lay_pl x
theorem lay_ky (k) {n} : Lay (n + 2) (kyP k) := .tup fun d hd => by
  simp only [List.mem_cons, List.not_mem_nil, or_false] at hd
  rcases hd with rfl | rfl | rfl | rfl
  · exact .tup fun d hd => by obtain ⟨x, _, rfl⟩ := List.mem_map.mp hd; exact .int
  all_goals exact .int
theorem Lay.nil {n} : ∀ d ∈ ([] : List PyData), Lay n d := fun _ h => nomatch h
theorem Lay.cons {n d ds} (a : Lay n d) (b : ∀ d ∈ ds, Lay n d) : ∀ x ∈ d :: ds, Lay n x := fun x hx => by
  rcases List.mem_cons.mp hx with rfl | hx
  · exact a
  · exact b x hx
section
variable {w : World} {A : Around} {E : Value → Shared → Prop} {s : Shared} {a b : Value} {da db : PyData} {Q : Value → Shared → Prop}
theorem ne_D {c : Bool} (ra : Rd s.heap a da) (rb : Rd s.heap b db) (ha : Lay 20 da) (hb : Lay 20 db) (hu : A.units + 20 < cLine) (hc : (!PyData.eqv da db) = c)
    (h : Q (.bool c) s) : wpAny (model prg w) A (compareOp .NotEq a b) Q E s := by
  subst hc
  obtain ⟨_, ra⟩ := ra
  obtain ⟨_, rb⟩ := rb
  have := ha.dep
  exact PySem.SeqAt.compareNe_reads ra rb ha.can hb.can (by omega) h
theorem eq_D {c : Bool} (ra : Rd s.heap a da) (rb : Rd s.heap b db) (ha : Lay 20 da) (hb : Lay 20 db) (hu : A.units + 20 < cLine) (hc : PyData.eqv da db = c)
    (h : Q (.bool c) s) : wpAny (model prg w) A (compareOp .Eq a b) Q E s := by
  subst hc
  obtain ⟨_, ra⟩ := ra
  obtain ⟨_, rb⟩ := rb
  have := ha.dep
  exact PySem.SeqAt.compareEq_reads ra rb ha.can hb.can (by omega) h
end
theorem eqv_of_eq {n a b} (x : Lay n a) (h : a = b) : PyData.eqv a b = true := h ▸ PySem.SeqAt.eqv_refl a x.can
theorem eqv_of_ne {n m a b} (x : Lay n a) (y : Lay m b) (h : a ≠ b) : PyData.eqv a b = false := by
  cases q : PyData.eqv a b with
  | false => rfl
  | true => exact absurd ((x.eqv y).mp q) h
theorem psP_inj {a b} (h : psP a = psP b) : a = b := by
  simp only [psP, PyData.tuple.injEq] at h
  induction a generalizing b with
  | nil => cases b with
    | nil => rfl
    | cons _ _ => cases h
  | cons x a ih => cases b with
    | nil => cases h
    | cons y b =>
      simp only [List.map_cons, List.cons.injEq] at h
      rw [ih h.2]
      obtain ⟨x1, x2, x3⟩ := x
      obtain ⟨y1, y2, y3⟩ := y
      have := h.1
      simp only [plP, PyData.tuple.injEq, List.cons.injEq, PyData.int.injEq, and_true] at this
      obtain ⟨rfl, rfl, rfl⟩ := this
      rfl
section
variable {w : World} {A : Around} {E : Value → Shared → Prop} {s : Shared} {d a L : Addr} {h₀ : Heap} {m : Str → Option Value} {news n1 n2 : List (Addr × Obj)} {k : Ky} {xs : List (Ky × Addr × Value)}
end
end Mine
end F_BaseL
section F_BaseM
open PySem PySem.W PySem.Spec PySem.Calls PyProof.Rows
namespace Mine
section
variable {w : World} {A : Around} {E : Value → Shared → Prop} {s : Shared} {d L : Addr} {h₀ : Heap} {m : Str → Option Value} {news n2 : List (Addr × Obj)} {xs : List (Ky × Addr × Value)} {Q : Value → Shared → Prop}
end
section
variable {w : World} {A : Around} {E : Value → Shared → Prop} {s : Shared} {d V L : Addr} {h₀ : Heap} {m : Str → Option Value} {env : Env} {news : List (Addr × Obj)} {xs : List (Ky × Addr × Value)} {es : Tab}
end
section
variable {w : World} {A : Around} {E : Value → Shared → Prop} {s : Shared} {h₀ : Heap} {L : Addr} {m : Str → Option Value} {env : Env}
end
section
variable {w : World} {A : Around} {E : Value → Shared → Prop} {s : Shared} {h₀ : Heap} {L : Addr} {m : Str → Option Value} {news : List (Addr × Obj)}
theorem sum_list {l : Addr} {vs : List Value} {ns : List Int} {Q : Value → Shared → Prop} (hh : A.handled = none) (F : Fr h₀ L s.heap m) (N : News h₀ L s.heap news) (hl : s.heap.IsList l vs.toArray) (hi : IntsAre vs ns)
    (h : ∀ h' tk t', Fr h₀ L h' m → News h₀ L h' news → Q (.int ns.sum t') { s with heap := h', toks := tk }) :
    wpAny (model prg w) A (call (.builtin "sum") [.ref l]) Q E s := by
  obtain ⟨xs, hx⟩ := hi.allInts.items
  have hn : numsOf vs.toArray.toList = ns := by rw [show vs.toArray.toList = vs from rfl, hi.numsOf]
  rw [hx] at hl hn
  rw [nums_intItems] at hn
  refine sum_intListG hh hl fun h' tk t' hk => ?_
  have := h h' tk t' (F.keeps hk) (N.grown hk)
  rw [preSum_eq, List.take_of_length_le (by simp), hn]
  exact this
end
end Mine
end F_BaseM
section F_BaseN
namespace PySem.SeqAt
open AutoSeq1 (wpAny_loadPart')
open MeetsSeq MeetsSeq2 MeetsSeq3 SeqRoads2
noncomputable def CoAt (op : CmpOp) (A : Around) (s : Shared) (y x : Value) (b : Bool) : Prop :=
  ∀ (prog : Program) (w : World) (E : Value → Shared → Prop) (Q : Value → Shared → Prop), Q (.bool b) s → wpAny (model prog w) A (richCompare op y x) Q E s
noncomputable def LexAt (op : CmpOp) (A : Around) (s : Shared) (fin : Bool) : List (Value × Value) → Bool → Prop
  | [], r => r = fin
  | (x, y) :: rest, r => ∃ e, EqAt A s x y e ∧ (if e = true then LexAt op A s fin rest r else CoAt op A s x y r)
theorem tuple_ltAt (l b : Addr) (items items2 : Array Value) (n n2 : Nat) (dd dd2 : Option Addr) (sl sl2 : Array (Option Value)) (r : Bool) :
    Meets (Builtin.«tuple.__lt__» ⟨[.ref l, .ref b], []⟩)
      (fun A R s => s.heap.get? l = some { cls := .type "tuple", dict := dd, data := .seq items n, slots := sl } ∧ s.heap.get? b = some { cls := .type "tuple", dict := dd2, data := .seq items2 n2, slots := sl2 } ∧
        LexAt .Lt A.in1 s (decide (items.size < items2.size)) (items.toList.zip items2.toList) r ∧ R (.ok (.ret (.bool r))) s) :=
  .of_wp fun prog w A R s h => by
    obtain ⟨hp, g, d, tk, os⟩ := s; obtain ⟨hl, hb, he, h⟩ := h
    have f2 := AutoSeq1.sub_tuple_tuple
    wp_walk using wpAny_loadPart' hl, wpAny_loadPart' hb, wpAny_forIn_list _ (fun rest b s' => b.1 = none ∧ s' = ⟨hp, g, d, tk, os⟩ ∧ LexAt .Lt A.in1 ⟨hp, g, d, tk, os⟩ (decide (items.size < items2.size)) rest r) _
    case turn =>
      rintro ⟨y, x⟩ rest b s' ⟨hb', rfl, e, he, hr⟩
      refine wpAny_bind (he prog w _ _ ?_)
      cases e with
      | true =>
        rw [if_pos rfl] at hr
        wp_walk
        exact ⟨rfl, rfl, hr⟩
      | false =>
        rw [if_neg (by simp)] at hr
        simp only [Bool.not_false, if_true]
        refine wpAny_bind (wpAny_rule (wpAny_bind (hr prog w _ _ ?_)))
        wp_walk
        exact ⟨_, rfl, h⟩
    case fin =>
      rintro ⟨b1, b2⟩ s' ⟨hb', rfl, hr⟩
      simp only at hb'
      subst hb'
      wp_walk
      have hr' : r = decide (items.size < items2.size) := hr
      exact ⟨_, rfl, by rw [hr'] at h; simpa [Builtin.Tuple.tupleCompareSizes] using h⟩
    case h =>
      exact ⟨rfl, rfl, he⟩
theorem tuple_leAt (l b : Addr) (items items2 : Array Value) (n n2 : Nat) (dd dd2 : Option Addr) (sl sl2 : Array (Option Value)) (r : Bool) :
    Meets (Builtin.«tuple.__le__» ⟨[.ref l, .ref b], []⟩)
      (fun A R s => s.heap.get? l = some { cls := .type "tuple", dict := dd, data := .seq items n, slots := sl } ∧ s.heap.get? b = some { cls := .type "tuple", dict := dd2, data := .seq items2 n2, slots := sl2 } ∧
        LexAt .LtE A.in1 s (decide (items.size ≤ items2.size)) (items.toList.zip items2.toList) r ∧ R (.ok (.ret (.bool r))) s) :=
  .of_wp fun prog w A R s h => by
    obtain ⟨hp, g, d, tk, os⟩ := s; obtain ⟨hl, hb, he, h⟩ := h
    have f2 := AutoSeq1.sub_tuple_tuple
    wp_walk using wpAny_loadPart' hl, wpAny_loadPart' hb, wpAny_forIn_list _ (fun rest b s' => b.1 = none ∧ s' = ⟨hp, g, d, tk, os⟩ ∧ LexAt .LtE A.in1 ⟨hp, g, d, tk, os⟩ (decide (items.size ≤ items2.size)) rest r) _
    case turn =>
      rintro ⟨y, x⟩ rest b s' ⟨hb', rfl, e, he, hr⟩
      refine wpAny_bind (he prog w _ _ ?_)
      cases e with
      | true =>
        rw [if_pos rfl] at hr
        wp_walk
        exact ⟨rfl, rfl, hr⟩
      | false =>
        rw [if_neg (by simp)] at hr
        simp only [Bool.not_false, if_true]
        refine wpAny_bind (wpAny_rule (wpAny_bind (hr prog w _ _ ?_)))
        wp_walk
        exact ⟨_, rfl, h⟩
    case fin =>
      rintro ⟨b1, b2⟩ s' ⟨hb', rfl, hr⟩
      simp only at hb'
      subst hb'
      wp_walk
      have hr' : r = decide (items.size ≤ items2.size) := hr
      exact ⟨_, rfl, by rw [hr'] at h; simpa [Builtin.Tuple.tupleCompareSizes] using h⟩
    case h =>
      exact ⟨rfl, rfl, he⟩
end PySem.SeqAt
end F_BaseN
section F_BaseO
open PySem PySem.W PySem.Spec PySem.Calls PyProof.Rows
namespace Mine
noncomputable def kRun {α : Type} (n : Nat) (f : Nat → Nat → Bool) : KasT α → Option α
  | .ret a => some a
  | .ask i j k => bif Nat.blt i n && Nat.blt j n then kRun n f (k (f i j)) else none
theorem kasWp_run {α : Type} {cmp : Nat → Nat → (Bool → Shared → Prop) → Shared → Prop} {n : Nat} {f : Nat → Nat → Bool} {s : Shared} (hc : ∀ i j C, i < n → j < n → C (f i j) s → cmp i j C s) :
    ∀ (t : KasT α) (a : α) (Q : α → Shared → Prop), kRun n f t = some a → Q a s → t.kasWp cmp Q s
  | .ret b, a, Q, h, hq => by
    simp only [kRun, Option.some.injEq] at h
    subst h
    exact hq
  | .ask i j k, a, Q, h, hq => by
    unfold kRun at h
    cases hij : (Nat.blt i n && Nat.blt j n) with
    | true =>
      rw [hij] at h
      simp only [Bool.and_eq_true, Nat.blt_eq] at hij
      exact hc i j _ hij.1 hij.2 (kasWp_run hc (k (f i j)) a Q h hq)
    | false => rw [hij] at h; cases h
noncomputable def arrs : Nat → List (List Nat)
  | 0 => [[]]
  | n + 1 => (List.range 6).flatMap fun x => ((arrs n).filter fun r => !r.contains x).map (x :: ·)
theorem mem_arrs {r : List Nat} (hn : r.Nodup) (hx : ∀ x ∈ r, x < 6) : r ∈ arrs r.length := by
  induction r with
  | nil => exact .head _
  | cons x r ih =>
    rw [List.nodup_cons] at hn
    refine List.mem_flatMap.mpr ⟨x, List.mem_range.mpr (hx x (.head _)), List.mem_map.mpr ⟨r, List.mem_filter.mpr ⟨ih hn.2 fun y hy => hx y (.tail _ hy), ?_⟩, rfl⟩⟩
    simpa using hn.1
noncomputable def rankLt (r : List Nat) (i j : Nat) : Bool := Nat.blt (r.getD i 0) (r.getD j 0)
noncomputable def rankOk (p : Array Nat) (r : List Nat) : Bool := p.toList.all (fun i => Nat.blt i r.length) && (p.toList.map (fun i => r.getD i 0) == (List.range 6).filter (fun x => r.contains x))
noncomputable def treeChk (n : Nat) : KasT (Array Nat) → List (List Nat) → Bool
  | _, [] => true
  | .ret p, r :: rs => (r :: rs).all (rankOk p)
  | .ask i j k, r :: rs => Nat.blt i n && Nat.blt j n && (treeChk n (k true) ((r :: rs).filter fun r => rankLt r i j) && treeChk n (k false) ((r :: rs).filter fun r => !rankLt r i j))
theorem treeChk_of {n : Nat} : ∀ (t : KasT (Array Nat)) (rs : List (List Nat)), treeChk n t rs = true → ∀ r ∈ rs, ∃ p, kRun n (rankLt r) t = some p ∧ rankOk p r = true
  | _, [], _, r, hr => nomatch hr
  | .ret p, r' :: rs, h, r, hr => ⟨p, rfl, List.all_eq_true.mp h r hr⟩
  | .ask i j k, r' :: rs, h, r, hr => by
    unfold treeChk at h
    obtain ⟨h1, h2⟩ := Bool.and_eq_true_iff.mp h
    obtain ⟨h2, h3⟩ := Bool.and_eq_true_iff.mp h2
    unfold kRun
    rw [h1]
    cases q : rankLt r i j with
    | true => exact treeChk_of (k true) _ h2 r (List.mem_filter.mpr ⟨hr, q⟩)
    | false => exact treeChk_of (k false) _ h3 r (List.mem_filter.mpr ⟨hr, by rw [q]; rfl⟩)
theorem sortChk_6 : ((List.range 7).all fun n => treeChk n (kas_sort n) (arrs n)) = true := by decide +kernel
set_option tactic.hygienic true in
theorem sort_ranks {r : List Nat} (hl : r.length ≤ 6) (hn : r.Nodup) (hx : ∀ x ∈ r, x < 6) : ∃ p : Array Nat, kRun r.length (fun i j => Nat.blt (r.getD i 0) (r.getD j 0)) (kas_sort r.length) = some p ∧ (∀ i ∈ p.toList, i < r.length) ∧ p.toList.map (fun i => r.getD i 0) = (List.range 6).filter (fun x => r.contains x) := by
  obtain ⟨p, h1, h2⟩ := treeChk_of _ _ (List.all_eq_true.mp sortChk_6 r.length (List.mem_range.mpr (Nat.lt_succ_of_le hl))) r (mem_arrs hn hx)
  obtain ⟨h2, h3⟩ := Bool.and_eq_true_iff.mp h2
  exact ⟨p, h1, fun i hi => by simpa using List.all_eq_true.mp h2 i hi, by simpa using h3⟩
end Mine
end F_BaseO
section F_BaseP
open PySem PySem.W PySem.Spec PySem.Calls PyProof.Rows PySem.SeqAt
namespace Mine
noncomputable def ltI (le : Bool) : List Int → List Int → Bool
  | [], [] => le
  | [], _ :: _ => true
  | _ :: _, [] => false
  | x :: xs, y :: ys => if x = y then ltI le xs ys else decide (x < y)
noncomputable def kyCmp (le : Bool) (a b : Ky) : Bool :=
  if a.sum = b.sum then if a.l = b.l then if a.p = b.p then if a.c = b.c then le else decide (a.c < b.c) else decide (a.p < b.p) else decide (a.l < b.l) else ltI le a.sum b.sum
noncomputable def opOf : Bool → CmpOp
  | false => .Lt
  | true => .LtE
noncomputable def finOf (le : Bool) (m n : Nat) : Bool := if le then decide (m ≤ n) else decide (m < n)
section
variable {A : Around} {s : Shared}
theorem eqAt_int {a b : Int} {t u : Tok} (hu : A.units < cLine) : EqAt A s (.int a t) (.int b u) (decide (a = b)) := fun prog w E Q h =>
  SeqAt.eqBoolOverData prog w A E s _ _ _ _ _ _ Q (.int a t) (.int b u) rfl rfl (by simpa [PyData.depth] using hu) (by
    have : PyData.eqv (.int a) (.int b) = decide (a = b) := by simp [PyData.eqv]; exact Bool.beq_eq_decide_eq ..
    rw [this]; exact h)
theorem eqAt_ints {a b : Value} {xs ys : List Int} (hu : A.units + 10 < cLine) (ha : Rd s.heap a (.tuple (xs.map .int))) (hb : Rd s.heap b (.tuple (ys.map .int))) : EqAt A s a b (decide (xs = ys)) := fun prog w E Q h => by
  obtain ⟨_, ra⟩ := ha
  obtain ⟨_, rb⟩ := hb
  have l : ∀ zs : List Int, Lay 1 (.tuple (zs.map .int)) := fun zs => .tup fun d hd => by obtain ⟨x, _, rfl⟩ := List.mem_map.mp hd; exact .int
  have := (l xs).dep
  refine SeqAt.eqBoolOverData prog w A E s _ _ _ _ _ _ Q ra rb (l xs).can (l ys).can (by omega) ?_
  have : PyData.eqv (.tuple (xs.map .int)) (.tuple (ys.map .int)) = decide (xs = ys) := by simp only [PyData.eqv]; exact eqv_ints xs ys
  rw [this]; exact h
theorem coAt_int (le : Bool) {a b : Int} {t u : Tok} (hne : a ≠ b) : CoAt (opOf le) A s (.int a t) (.int b u) (decide (a < b)) := fun prog w E Q h => by
  cases le with
  | false => exact wpAny_lt_int h
  | true =>
    have e : decide (a ≤ b) = decide (a < b) := by rw [decide_eq_decide]; omega
    exact PySem.P.le_int (by rw [e]; exact h)
theorem lex_ints (le : Bool) (hu : A.units < cLine) {m n : Nat} : ∀ {xs ys : List Int} {vs ws : List Value}, Rds s.heap vs (xs.map .int) → Rds s.heap ws (ys.map .int) → (finOf le m n = finOf le vs.length ws.length) →
    LexAt (opOf le) A s (finOf le m n) (vs.zip ws) (ltI le xs ys)
  | [], [], vs, ws, hv, hw, e => by
    obtain rfl := hv.nil_inv
    obtain rfl := hw.nil_inv
    show _ = _
    rw [e]; cases le <;> rfl
  | [], y :: ys, vs, ws, hv, hw, e => by
    obtain rfl := hv.nil_inv
    obtain ⟨v, r, rfl, _⟩ := hw.cons_inv
    show _ = _
    rw [e]; cases le <;> simp [finOf, ltI]
  | x :: xs, [], vs, ws, hv, hw, e => by
    obtain rfl := hw.nil_inv
    obtain ⟨v, r, rfl, _⟩ := hv.cons_inv
    show _ = _
    rw [e]; cases le <;> simp [finOf, ltI]
  | x :: xs, y :: ys, vs, ws, hv, hw, e => by
    obtain ⟨v, r, rfl, hv1, hv2⟩ := hv.cons_inv
    obtain ⟨v', r', rfl, hw1, hw2⟩ := hw.cons_inv
    obtain ⟨t, rfl⟩ := hv1.int_inv
    obtain ⟨u, rfl⟩ := hw1.int_inv
    refine ⟨decide (x = y), eqAt_int hu, ?_⟩
    by_cases q : x = y
    · subst q
      simp only [decide_true, if_true, ltI]
      exact lex_ints le hu hv2 hw2 (by rw [e]; cases le <;> simp [finOf])
    · simp only [q, decide_false, Bool.false_eq_true, if_false, ltI]
      exact coAt_int le q
theorem coAt_tup (le : Bool) {l b : Addr} {items items2 : Array Value} {r : Bool} (hl : s.heap.IsTuple l items) (hb : s.heap.IsTuple b items2) (hu : A.units < cLine)
    (he : LexAt (opOf le) A.in1 s (finOf le items.size items2.size) (items.toList.zip items2.toList) r) : CoAt (opOf le) A s (.ref l) (.ref b) r := fun prog w E Q h => by
  obtain ⟨⟨cls, dd, data, sl⟩, ho, hc, n, hd⟩ := id hl
  obtain ⟨⟨cls2, dd2, data2, sl2⟩, ho2, hc2, n2, hd2⟩ := id hb
  simp only at hc hd hc2 hd2
  subst hc hd hc2 hd2
  cases le with
  | false =>
    exact richCompare_meets_room (op := .Lt) ⟨_, ho, rfl⟩ ⟨_, ho2, rfl⟩ F.slot_tuple_lt F.entry_tuple_lt (F.args_tuple_lt_2 _ _) (tuple_ltAt l b items items2 n n2 dd dd2 sl sl2 r)
      ⟨ho, ho2, he, show Value.bool r ≠ Value.notImplemented ∧ Q (.bool r) s from ⟨(fun x => nomatch x), h⟩⟩ hu
  | true =>
    exact richCompare_meets_room (op := .LtE) ⟨_, ho, rfl⟩ ⟨_, ho2, rfl⟩ F.slot_tuple_le F.entry_tuple_le (F.args_tuple_le_2 _ _) (tuple_leAt l b items items2 n n2 dd dd2 sl sl2 r)
      ⟨ho, ho2, he, show Value.bool r ≠ Value.notImplemented ∧ Q (.bool r) s from ⟨(fun x => nomatch x), h⟩⟩ hu
theorem coAt_sum (le : Bool) {a b : Addr} {xs ys : List Int} (hu : A.units + 1 < cLine) (ha : Rd s.heap (.ref a) (.tuple (xs.map .int))) (hb : Rd s.heap (.ref b) (.tuple (ys.map .int))) : CoAt (opOf le) A s (.ref a) (.ref b) (ltI le xs ys) := by
  obtain ⟨a', o, vs, n, e, ho, hc, hd, hr⟩ := ha.tup_inv
  obtain ⟨b', o2, ws, n2, e2, ho2, hc2, hd2, hr2⟩ := hb.tup_inv
  cases e; cases e2
  refine coAt_tup le ⟨o, ho, hc, n, hd⟩ ⟨o2, ho2, hc2, n2, hd2⟩ (by omega) ?_
  exact lex_ints le (show A.units + 1 < cLine from hu) hr hr2 (by simp)
theorem lex_ky (le : Bool) {a b : Ky} {vs ws : Array Value} {m n : Nat} (hu : A.units + 20 < cLine) (hm : m = 4) (hn : n = 4)
    (hv : ∃ q t1 t2 t3, vs.toList = [.ref q, .int a.l t1, .int a.p t2, .int a.c t3] ∧ Rd s.heap (.ref q) (.tuple (a.sum.map .int)))
    (hw : ∃ q t1 t2 t3, ws.toList = [.ref q, .int b.l t1, .int b.p t2, .int b.c t3] ∧ Rd s.heap (.ref q) (.tuple (b.sum.map .int))) :
    LexAt (opOf le) A s (finOf le m n) (vs.toList.zip ws.toList) (kyCmp le a b) := by
  obtain ⟨q, t1, t2, t3, e, hq⟩ := hv
  obtain ⟨q', u1, u2, u3, e', hq'⟩ := hw
  subst hm hn
  rw [e, e']
  refine ⟨decide (a.sum = b.sum), eqAt_ints (by omega) hq hq', ?_⟩
  by_cases h1 : a.sum = b.sum
  · simp only [h1, decide_true, if_true, kyCmp]
    refine ⟨decide (a.l = b.l), eqAt_int (by omega), ?_⟩
    by_cases h2 : a.l = b.l
    · simp only [h2, decide_true, if_true]
      refine ⟨decide (a.p = b.p), eqAt_int (by omega), ?_⟩
      by_cases h3 : a.p = b.p
      · simp only [h3, decide_true, if_true]
        refine ⟨decide (a.c = b.c), eqAt_int (by omega), ?_⟩
        by_cases h4 : a.c = b.c
        · simp only [h4, decide_true, if_true]
          show _ = _
          cases le <;> rfl
        · simp only [h4, decide_false, Bool.false_eq_true, if_false]
          exact coAt_int le h4
      · simp only [h3, decide_false, Bool.false_eq_true, if_false]
        exact coAt_int le h3
    · simp only [h2, decide_false, Bool.false_eq_true, if_false]
      exact coAt_int le h2
  · simp only [h1, decide_false, Bool.false_eq_true, if_false, kyCmp]
    exact coAt_sum le (by omega) hq hq'
theorem coAt_ky (le : Bool) {x y : Addr} {a b : Ky} (hu : A.units + 30 < cLine) (ha : isKy s.heap a x) (hb : isKy s.heap b y) : CoAt (opOf le) A s (.ref x) (.ref y) (kyCmp le a b) := by
  obtain ⟨o, vs, n, q, t1, t2, t3, ho, hc, hd, he, hr⟩ := ha.open
  obtain ⟨o2, ws, n2, q2, u1, u2, u3, ho2, hc2, hd2, he2, hr2⟩ := hb.open
  have e1 : vs.size = 4 := by rw [← Array.length_toList, he]; rfl
  have e2 : ws.size = 4 := by rw [← Array.length_toList, he2]; rfl
  exact coAt_tup le ⟨o, ho, hc, n, hd⟩ ⟨o2, ho2, hc2, n2, hd2⟩ (by omega) (lex_ky le (show A.units + 1 + 20 < cLine by omega) e1 e2 ⟨q, t1, t2, t3, he, hr⟩ ⟨q2, u1, u2, u3, he2, hr2⟩)
end
theorem le_ky {w : World} {A : Around} {E : Value → Shared → Prop} {s : Shared} {x y : Addr} {a b : Ky} {Q : Value → Shared → Prop} {c : Bool} (hu : A.units + 30 < cLine) (ha : isKy s.heap a x) (hb : isKy s.heap b y) (hc : kyCmp true a b = c) (h : Q (.bool c) s) :
    wpAny (model prg w) A (compareOp .LtE (.ref x) (.ref y)) Q E s := by
  subst hc
  exact coAt_ky true hu ha hb prg w E Q h
end Mine
end F_BaseP
section F_BaseQ
open PySem PySem.W PySem.Spec PySem.Calls PyProof.Rows PySem.SeqAt
namespace Mine
noncomputable def keysS : List Ky := [⟨[1, 2, 3, 4], 32, 16, 0⟩, ⟨[1, 2, 3, 4], 32, 16, 1⟩, ⟨[1, 2, 3, 4], 32, 32, 1⟩, ⟨[1, 2, 3, 4], 48, 16, 1⟩, ⟨[1, 2, 3, 5], 32, 16, 1⟩, ⟨[4294967295, 0, 0, 0], 65535, 16, 3⟩]
noncomputable def rk (k : Ky) : Nat := keysS.idxOf k
theorem kyCmp_rk : ∀ a ∈ keysS, ∀ b ∈ keysS, kyCmp false a b = Nat.blt (rk a) (rk b) := by decide +kernel
theorem rk_lt : ∀ a ∈ keysS, rk a < 6 := by decide +kernel
theorem rk_get : ∀ a ∈ keysS, keysS[rk a]? = some a := by decide +kernel
theorem rk_inj {a b : Ky} (ha : a ∈ keysS) (hb : b ∈ keysS) (h : rk a = rk b) : a = b := by
  have h1 := rk_get a ha
  have h2 := rk_get b hb
  rw [h, h2] at h1
  exact (Option.some.inj h1).symm
noncomputable def dK : Ky := ⟨[], 0, 0, 0⟩
theorem range_keys : (List.range 6).map (fun x => keysS.getD x dK) = keysS := by decide +kernel
theorem get_rk {a : Ky} (ha : a ∈ keysS) : keysS.getD (rk a) dK = a := by simp [List.getD, rk_get a ha]
theorem rk_at : ∀ x, x < 6 → keysS.getD x dK ∈ keysS ∧ rk (keysS.getD x dK) = x := by decide +kernel
theorem fm_congr {α β : Type} {f g : α → Option β} : ∀ {l : List α}, (∀ x ∈ l, f x = g x) → l.filterMap f = l.filterMap g
  | [], _ => rfl
  | x :: l, h => by
    rw [List.filterMap_cons, List.filterMap_cons, h x (.head _), fm_congr fun y hy => h y (.tail _ hy)]
theorem kRun_congr {α : Type} {n : Nat} {f g : Nat → Nat → Bool} (h : ∀ i j, i < n → j < n → f i j = g i j) : ∀ (t : KasT α) (a : α), kRun n f t = some a → kRun n g t = some a
  | .ret _, _, e => e
  | .ask i j k, a, e => by
    unfold kRun at e ⊢
    cases hij : (Nat.blt i n && Nat.blt j n) with
    | true =>
      rw [hij] at e
      simp only [Bool.and_eq_true, Nat.blt_eq] at hij
      rw [← h i j hij.1 hij.2]
      exact kRun_congr h (k (f i j)) a e
    | false => rw [hij] at e; cases e
theorem sort_keys {ks : List Ky} (hl : ks.length ≤ 6) (hn : ks.Nodup) (hk : ∀ k ∈ ks, k ∈ keysS) : ∃ p : Array Nat, kRun ks.length (fun i j => Nat.blt (rk (ks.getD i dK)) (rk (ks.getD j dK))) (kas_sort ks.length) = some p ∧ (∀ i ∈ p.toList, i < ks.length) ∧
    p.toList.map (fun i => ks.getD i dK) = keysS.filter (fun k => ks.contains k) := by
  have hr : (ks.map rk).Nodup := by
    rw [List.nodup_iff_pairwise_ne, List.pairwise_map]
    refine List.Pairwise.imp_of_mem (fun {a b} ha hb h => ?_) (List.nodup_iff_pairwise_ne.mp hn)
    exact fun e => h (rk_inj (hk a ha) (hk b hb) e)
  obtain ⟨p, h1, h2, h3⟩ := sort_ranks (r := ks.map rk) (by simpa using hl) hr (fun x hx => by obtain ⟨k, hk', rfl⟩ := List.mem_map.mp hx; exact rk_lt k (hk k hk'))
  simp only [List.length_map] at h1 h2
  have hg : ∀ i, i < ks.length → (ks.map rk).getD i 0 = rk (ks.getD i dK) := fun i hi => by simp [List.getD, hi]
  refine ⟨p, ?_, h2, ?_⟩
  · refine kRun_congr (fun i j hi hj => ?_) _ _ h1
    rw [hg i hi, hg j hj]
  · have e1 : p.toList.map (fun i => ks.getD i dK) = (p.toList.map fun i => (ks.map rk).getD i 0).map fun x => keysS.getD x dK := by
      rw [List.map_map]
      refine List.map_congr_left fun i hi => ?_
      have hi' := h2 i hi
      show _ = keysS.getD ((ks.map rk).getD i 0) dK
      rw [hg i hi', get_rk]
      have : ks.getD i dK = ks[i] := by simp [List.getD, hi']
      rw [this]
      exact hk _ (List.getElem_mem _)
    rw [e1, h3]
    have e2 : keysS.filter (fun k => ks.contains k) = ((List.range 6).filter ((fun k => ks.contains k) ∘ fun x => keysS.getD x dK)).map fun x => keysS.getD x dK := by
      rw [← List.filter_map]; exact congrArg (List.filter fun k => ks.contains k) range_keys.symm
    rw [e2]
    congr 1
    refine List.filter_congr fun x hx => ?_
    have hx6 := List.mem_range.mp hx
    obtain ⟨a1, a2⟩ := rk_at x hx6
    simp only [Function.comp]
    rw [Bool.eq_iff_iff]
    simp only [List.contains_iff_mem, List.mem_map]
    constructor
    · rintro ⟨k, hk1, rfl⟩
      rw [get_rk (hk k hk1)]; exact hk1
    · intro h
      exact ⟨_, h, a2⟩
noncomputable def sortT (es : Tab) : Tab := keysS.filterMap fun k => (es.lookup k).map fun e => (k, e)
theorem lookup_nodup : ∀ {es : Tab}, (es.map (·.1)).Nodup → ∀ x ∈ es, es.lookup x.1 = some x.2
  | [], _, _, h => nomatch h
  | y :: es, hn, x, h => by
    rw [List.map_cons, List.nodup_cons] at hn
    rw [List.lookup_cons]
    rcases List.mem_cons.mp h with rfl | h
    · rw [beq_self_eq_true]
    · have : (x.1 == y.1) = false := by
        rw [beq_eq_false_iff_ne]
        intro e
        exact hn.1 (e ▸ List.mem_map.mpr ⟨x, h, rfl⟩)
      rw [this]
      exact lookup_nodup hn.2 x h
theorem lookup_none : ∀ {es : Tab} {k : Ky}, k ∉ es.map (·.1) → es.lookup k = none
  | [], _, _ => rfl
  | y :: es, k, h => by
    simp only [List.map_cons, List.mem_cons, not_or] at h
    rw [List.lookup_cons, beq_false_of_ne h.1]
    exact lookup_none h.2
theorem sort_tab {es : Tab} (hl : es.length ≤ 6) (hn : (es.map (·.1)).Nodup) (hk : ∀ k ∈ es.map (·.1), k ∈ keysS) {p : List Nat} (hp : ∀ i ∈ p, i < es.length) (h : p.map (fun i => (es.map (·.1)).getD i dK) = keysS.filter (fun k => (es.map (·.1)).contains k)) :
    p.filterMap (fun i => es[i]?) = sortT es := by
  have e1 : p.filterMap (fun i => es[i]?) = (p.map fun i => (es.map (·.1)).getD i dK).filterMap fun k => (es.lookup k).map fun e => (k, e) := by
    rw [List.filterMap_map]
    refine fm_congr fun i hi => ?_
    have hi' := hp i hi
    have h1 : (es.map (·.1)).getD i dK = es[i].1 := by simp [List.getD, hi']
    simp only [Function.comp]
    rw [h1, lookup_nodup hn _ (List.getElem_mem hi')]
    simp [hi']
  rw [e1, h, sortT, List.filterMap_filter]
  refine fm_congr fun k _ => ?_
  split
  · rfl
  · rename_i q
    have : k ∉ es.map (·.1) := by simpa [List.contains_iff_mem] using q
    rw [lookup_none this]; rfl
end Mine
end F_BaseQ
section F_BaseR
open PySem PySem.W PySem.Spec PySem.Calls PyProof.Rows PySem.SeqAt
namespace Mine
section
variable {w : World} {A : Around} {E : Value → Shared → Prop} {s : Shared} {h₀ : Heap} {L D : Addr} {m : Str → Option Value} {news : List (Addr × Obj)} {Q : Value → Shared → Prop}
theorem kat_of_lex {fin : Bool} {P : Bool → Shared → Prop} : ∀ {l : List (Value × Value)} {i : Nat} {r : Bool}, LexAt .Lt A s fin l r → P r s → KatLex prg w A false fin P l i s
  | [], _, _, h, q => by
    have h' : _ = _ := h
    subst h'
    exact q
  | (x, y) :: rest, i, r, ⟨e, he, hr⟩, q => by
    refine kat_cons (he prg w _ _ ?_)
    cases e with
    | true => exact kat_yes (kat_of_lex (by simpa using hr) q)
    | false =>
      refine kat_no ?_
      rw [Bool.false_and]
      refine kat_one x y ?_
      have hr' : CoAt .Lt A s x y r := by simpa using hr
      exact hr' prg w _ _ q
theorem lex_self {op : CmpOp} {fin : Bool} : ∀ l : List Value, LexAt op A s fin (l.zip l) fin
  | [] => rfl
  | x :: l => ⟨true, EqAt.same x, by rw [if_pos rfl]; exact lex_self l⟩
theorem sorted_to {l : Addr} {vs : List Value} (F : Fr h₀ L s.heap m) (N : News h₀ L s.heap news) (hl : s.heap.IsList l vs.toArray) (hsz : vs.length ≤ sizeLine)
    (h : ∀ D h', Fr h₀ L h' m → News h₀ L h' ((D, listOf vs.toArray 0) :: news) → (∀ q ∈ news, q.1 < D) → wpAny (model prg w) A.in1 (call (.builtin "list.sort") [.ref D]) (fun _ s' => Q (.ref D) s') E { s with heap := h' }) :
    wpAny (model prg w) A (call (.builtin "sorted") [.ref l]) Q E s := by
  refine Calls.call_function_entry kind_sorted plain_sorted entry_sorted (args_sorted1 _) ?_
  unfold Builtin.«sorted»
  refine wpAny_bind (m := checkCount "sorted" 1 1 _) (wpAny_pure ?_)
  refine wpAny_bind (collect_list hl ?_ hsz)
  have hz : ((s.heap.push (seqObj "list" #[] 0)).update s.heap.objs.size (Obj.mapSeq (· ++ vs.toArray))).objs.size = s.heap.objs.size + 1 := by
    rw [Heap.size_update, Heap.size_push]
  have keep : ∀ b o, s.heap.get? b = some o → ((s.heap.push (seqObj "list" #[] 0)).update s.heap.objs.size (Obj.mapSeq (· ++ vs.toArray))).get? b = some o := fun b o q => by
    rw [Heap.get?_update_ne _ _ _ _ (Nat.ne_of_lt (Heap.lt_size q))]
    exact Heap.get?_push_of_some _ q
  refine wpAny_bind (wpAny_newList ?_ hsz)
  have F1 := F.keeps keep
  have N1 : News h₀ L _ news := N.grown keep
  refine wpAny_bind (wpAny_holding (wpAny_mono (h _ _ (F1.push _) (News.push F1 N1 _ rfl) fun q hq => Heap.lt_size (N1 q hq).1) (fun _ s' x => wpAny_pure ⟨_, rfl, x⟩) fun _ _ e => e))
theorem short_lsort {its : Array Value} {n : Nat} {g : Obj → List (Addr × Obj)} (F : Fr h₀ L s.heap m) (N : News h₀ L s.heap news) (U : UpdF D (listOf its n) news g) (h1 : its.size < 2)
    (h : ∀ h' c, Fr h₀ L h' m → News h₀ L h' (g (listOf its c)) → Q .none { s with heap := h' }) : wpAny (model prg w) A (call (.builtin "list.sort") [.ref D]) Q E s := by
  obtain ⟨pre, post, rfl, hg, x1, x2⟩ := U.split
  have nz := N (D, listOf its n) (List.mem_append_right _ (.head _))
  have ho : s.heap.get? D = some (seqObj "list" its n) := nz.1
  refine wpAny_call_entry slot_list_sort ⟨_, nz.1, rfl⟩ entry_list_sort ?_ (args_list_sort _)
  rw [list_sort_plain]
  have hlt : D < s.heap.objs.size := Heap.lt_size ho
  obtain ⟨e1, ho1⟩ : ∃ e1, (s.heap.update D (Obj.mapSeq fun _ => (#[] : Array Value))).get? D = some (seqObj "list" #[] e1) := ⟨_, get?_update_seq ho fun _ => #[]⟩
  have s1 := Heap.SameBut.update s.heap D (Obj.mapSeq fun _ => (#[] : Array Value))
  have z : its.size ≤ sizeLine := by rw [sizeLine_eq]; omega
  refine wpAny_bind (listItems_at ho rfl ?_)
  refine wpAny_bind (listUpdate_at ho rfl ?_ (by rw [sizeLine_eq]; omega) (Nat.zero_le _))
  refine wpAny_bind (seqEpoch_at ho1 rfl ?_)
  refine wpAny_bind (wpAny_newTuple ?_ (by rw [Array.length_toList]; exact z))
  refine wpAny_bind (wpAny_newList ?_ (Nat.zero_le _))
  refine wpAny_holding ?_
  rw [if_pos h1, if_pos h1]
  refine wpAny_bind (wpAny_pure ?_)
  refine wpAny_bind (m := StateT.run (pure ()) _) (wpAny_pure ?_)
  have hout : (arrOf (SortSt.mk' general' (its.zip its) #[] 7 none)).map (·.2) = its := by
    show (its.zip its).map (·.2) = its
    apply Array.toList_inj.mp
    simp only [Array.toList_map, Array.toList_zip]
    generalize its.toList = l
    induction l with
    | nil => rfl
    | cons x l ih => simp [ih]
  have up : ∀ b o, (s.heap.update D (Obj.mapSeq fun _ => (#[] : Array Value))).get? b = some o → (((s.heap.update D (Obj.mapSeq fun _ => (#[] : Array Value))).push (seqObj "tuple" its.toList.toArray 0)).push (seqObj "list" #[] 0)).get? b = some o :=
    fun b o e => Heap.get?_push_of_some _ (Heap.get?_push_of_some _ e)
  have F2 := (F.change s1 nz.2.1 nz.2.2).keeps up
  have N2 := (News.setIn N x1 x2 s1 ho1).grown up
  have ho2 := up _ _ ho1
  dsimp only
  rw [hout]
  refine wpAny_bind (seqEpoch_at ho2 rfl ?_)
  refine wpAny_bind (listUpdate_at ho2 rfl ?_ (Nat.zero_le _) (Nat.le_succ_of_le z))
  have s3 := Heap.SameBut.update (((s.heap.update D (Obj.mapSeq fun _ => (#[] : Array Value))).push (seqObj "tuple" its.toList.toArray 0)).push (seqObj "list" #[] 0)) D (Obj.mapSeq fun _ => its)
  simp only [bne_self_eq_false, Bool.false_eq_true, if_false]
  refine wpAny_pure ⟨_, rfl, ?_⟩
  obtain ⟨e2, ho3⟩ : ∃ e2, ((((s.heap.update D (Obj.mapSeq fun _ => (#[] : Array Value))).push (seqObj "tuple" its.toList.toArray 0)).push (seqObj "list" #[] 0)).update D (Obj.mapSeq fun _ => its)).get? D = some (listOf its e2) := ⟨_, get?_update_seq ho2 fun _ => its⟩
  refine h _ e2 (F2.change s3 nz.2.1 nz.2.2) ?_
  rw [hg]
  exact News.setIn N2 x1 x2 s3 ho3
end
end Mine
end F_BaseR
section F_BaseS
open PySem PySem.W PySem.Spec PySem.Calls PyProof.Rows PySem.SeqAt
namespace Mine
structure Sortable (h : Heap) (vs : List Value) (ks : List Ky) : Prop where
  tups : ∃ fs, KatTups h vs fs ∧ fs.length = vs.length ∧ ∀ f ∈ fs, ∃ a o, f = .ref a ∧ h.get? a = some o ∧ o.cls = .type "tuple"
  lex : ∀ i j, i < ks.length → j < ks.length → ∃ x y ox oy xs ys n k, vs.getD i .none = .ref x ∧ vs.getD j .none = .ref y ∧ h.get? x = some ox ∧ ox.data = .seq xs n ∧ h.get? y = some oy ∧ oy.data = .seq ys k ∧
    ∀ (A : Around) (s : Shared), s.heap = h → A.units + 40 < cLine → LexAt .Lt A s (decide (xs.size < ys.size)) (xs.toList.zip ys.toList) (Nat.blt (rk (ks.getD i dK)) (rk (ks.getD j dK)))
section
variable {w : World} {A : Around} {E : Value → Shared → Prop} {s : Shared} {h₀ : Heap} {L D : Addr} {m : Str → Option Value} {news : List (Addr × Obj)} {Q : Value → Shared → Prop}
theorem lsort_keys {vs : List Value} {ks : List Ky} {n : Nat} {g : Obj → List (Addr × Obj)} (hlen : vs.length = ks.length) (hl : ks.length ≤ 6) (hn : ks.Nodup) (hk : ∀ k ∈ ks, k ∈ keysS)
    (F : Fr h₀ L s.heap m) (N : News h₀ L s.heap news) (U : UpdF D (listOf vs.toArray n) news g) (hu : A.units + 60 < cLine)
    (hS : ∀ h' e1, Fr h₀ L h' m → News h₀ L h' (g (seqObj "list" #[] e1)) → Sortable h' vs ks) (hU : ∀ e1, UpdF D (seqObj "list" #[] e1) (g (seqObj "list" #[] e1)) g)
    (h : ∀ (p : List Nat) h' c, (∀ i ∈ p, i < ks.length) → p.map (fun i => ks.getD i dK) = keysS.filter (fun k => ks.contains k) → Fr h₀ L h' m → News h₀ L h' (g (listOf (p.map fun i => vs.getD i .none).toArray c)) → Q .none { s with heap := h' }) :
    wpAny (model prg w) A (call (.builtin "list.sort") [.ref D]) Q E s := by
  obtain ⟨p, p1, p2, p3⟩ := sort_keys hl hn hk
  by_cases h2 : vs.length < 2
  · refine short_lsort F N U (by simpa using h2) fun h' c F' N' => ?_
    rcases vs with _ | ⟨v, _ | ⟨v', r⟩⟩
    · obtain rfl : ks = [] := List.length_eq_zero_iff.mp (by simpa using hlen.symm)
      exact h [] h' c (fun _ h => nomatch h) (by simp) F' N'
    · obtain ⟨k, rfl⟩ : ∃ k, ks = [k] := List.length_eq_one_iff.mp (by simpa using hlen.symm)
      have hp : p.toList.length ≤ 1 := by
        have e := congrArg List.length p3
        rw [List.length_map] at e
        rw [e]
        refine Nat.le_trans ?_ (show (keysS.filter fun x => [k].contains x).length ≤ 1 from ?_)
        · exact Nat.le_refl _
        · have := hk k (.head _)
          have key : ∀ k ∈ keysS, (keysS.filter fun x => [k].contains x).length ≤ 1 := by decide +kernel
          exact key k this
      refine h [0] h' c (by simp) ?_ F' (by simpa using N')
      have key : ∀ k ∈ keysS, [k] = keysS.filter fun x => [k].contains x := by decide +kernel
      simpa using key k (hk k (.head _))
    · exfalso; simp at h2; lia
  · have h2' : 2 ≤ vs.length := by omega
    refine kat_lsort F N U (by simp) h2' (by omega) fun e1 h' F' N' => ?_
    have S := hS h' e1 F' N'
    obtain ⟨fs, t1, t2, t3⟩ := S.tups
    refine kat_kind (T := .type "tuple") t1 (by omega) (fun f hf => ?_) (by decide) ?_
    · obtain ⟨a, o, rfl, ho, hc⟩ := t3 f hf
      have : Looks (model prg w) h' (typeOf (.ref a)) o.cls := (Looks.ld ho).andThen .now
      rw [hc] at this
      exact this
    · have e0 : (Value.type "tuple" != Value.type "tuple") = false := by decide
      rw [e0, hlen]
      refine kasWp_run (n := ks.length) (f := fun i j => Nat.blt (rk (ks.getD i dK)) (rk (ks.getD j dK))) (fun i j C hi hj hC => ?_) _ p _ p1 ?_
      · obtain ⟨x, y, ox, oy, xs, ys, n', k', e1', e2', hx, dx, hy, dy, hlex⟩ := S.lex i j hi hj
        unfold kas_ask
        rw [e1', e2']
        exact kat_lt hx dx hy dy (kat_of_lex (hlex A.in1 _ rfl (show A.units + 1 + 40 < cLine by omega)) hC)
      · exact KasFin.intro F' N' (hU e1) fun h'' c F'' N'' => h p.toList h'' c p2 p3 F'' N''
end
inductive RowAt (h : Heap) (v : Value) (k : Ky) : Prop
  | in_ (a : Addr) (o : Obj) (xs : Array Value) (n) (x : Addr) (r : List Value) (_ : v = .ref a) (_ : h.get? a = some o) (_ : o.cls = .type "tuple") (_ : o.data = .seq xs n) (_ : xs.toList = Value.ref x :: r) (_ : isKy h k x) : RowAt h v k
noncomputable def RowKeys (h : Heap) (vs : List Value) (ks : List Ky) : Prop := vs.length = ks.length ∧ ∀ (i : Nat) (v : Value) (k : Ky), vs[i]? = some v → ks[i]? = some k → RowAt h v k
noncomputable def KeyVals (h : Heap) (vs : List Value) (ks : List Ky) : Prop := vs.length = ks.length ∧ ∀ (i : Nat) (v : Value) (k : Ky), vs[i]? = some v → ks[i]? = some k → ∃ a, v = .ref a ∧ isKy h k a
theorem nodup_at {ks : List Ky} (hn : ks.Nodup) {i j : Nat} (hi : i < ks.length) (hj : j < ks.length) (h : i ≠ j) : ks.getD i dK ≠ ks.getD j dK := by
  have e1 : ks.getD i dK = ks[i] := by simp [List.getD, hi]
  have e2 : ks.getD j dK = ks[j] := by simp [List.getD, hj]
  rw [e1, e2]
  have P := List.pairwise_iff_getElem.mp (List.nodup_iff_pairwise_ne.mp hn)
  rcases Nat.lt_or_gt_of_ne h with q | q
  · exact P i j hi hj q
  · exact Ne.symm (P j i hj hi q)
theorem blt_self (n : Nat) : Nat.blt n n = false := by
  rw [Bool.eq_false_iff]
  intro h
  have := Nat.blt_eq.mp h
  omega
theorem katTups_of {h : Heap} {P : Value → Prop} : ∀ {vs : List Value}, (∀ v ∈ vs, ∃ a o xs n f, v = .ref a ∧ h.get? a = some o ∧ o.cls = .type "tuple" ∧ o.data = .seq xs n ∧ xs[0]? = some f ∧ P f) → ∃ fs, KatTups h vs fs ∧ fs.length = vs.length ∧ ∀ f ∈ fs, P f
  | [], _ => ⟨[], KatTups.nil, rfl, fun _ h => nomatch h⟩
  | v :: vs, hv => by
    obtain ⟨fs, a1, a2, a3⟩ := katTups_of fun v hv' => hv v (.tail _ hv')
    obtain ⟨a, o, xs, n, f, rfl, ho, hc, hd, hf, hp⟩ := hv v (.head _)
    refine ⟨f :: fs, KatTups.cons ho hc hd hf a1, by simp [a2], fun x hx => ?_⟩
    rcases List.mem_cons.mp hx with rfl | hx
    · exact hp
    · exact a3 x hx
theorem getD_of {α : Type} {l : List α} {i : Nat} {d : α} (h : i < l.length) : l.getD i d = l[i] := by simp [List.getD, h]
theorem RowKeys.sortable {h : Heap} {vs : List Value} {ks : List Ky} (R : RowKeys h vs ks) (hn : ks.Nodup) (hk : ∀ k ∈ ks, k ∈ keysS) : Sortable h vs ks := by
  obtain ⟨hlen, hr⟩ := R
  refine ⟨katTups_of fun v hv => ?_, fun i j hi hj => ?_⟩
  · obtain ⟨i, hi, rfl⟩ := List.getElem_of_mem hv
    obtain ⟨a, o, xs, n, x, r, e, ho, hc, hd, he, hx⟩ := hr i vs[i] (ks[i]'(hlen ▸ hi)) (by simp) (by simp)
    obtain ⟨o', vs', n', q, t1, t2, t3, ho', hc', _⟩ := hx.open
    exact ⟨a, o, xs, n, .ref x, e, ho, hc, hd, by rw [← Array.getElem?_toList, he]; rfl, x, o', rfl, ho', hc'⟩
  · obtain ⟨a, o, xs, n, x, r, e, ho, hc, hd, he, hx⟩ := hr i (vs[i]'(hlen ▸ hi)) ks[i] (by simp [hlen, hi]) (by simp)
    obtain ⟨a', o', xs', n', x', r', e', ho', hc', hd', he', hx'⟩ := hr j (vs[j]'(hlen ▸ hj)) ks[j] (by simp [hlen, hj]) (by simp)
    refine ⟨a, a', o, o', xs, xs', n, n', by rw [getD_of (hlen ▸ hi)]; exact e, by rw [getD_of (hlen ▸ hj)]; exact e', ho, hd, ho', hd', fun A s hs hu => ?_⟩
    subst hs
    by_cases q : i = j
    · subst q
      rw [e] at e'; cases e'
      rw [ho] at ho'; cases ho'
      rw [hd] at hd'; cases hd'
      rw [blt_self]
      have : decide (xs.size < xs.size) = false := by simp
      rw [this]
      exact lex_self _
    · have hne := nodup_at hn hi hj q
      rw [getD_of hi, getD_of hj] at hne ⊢
      rw [he, he', ← kyCmp_rk _ (hk _ (List.getElem_mem _)) _ (hk _ (List.getElem_mem _))]
      refine ⟨decide (ks[i] = ks[j]), fun prog w E Q hq => ky_eqBool (by omega) hx hx' hq, ?_⟩
      rw [decide_eq_false hne, if_neg (by simp)]
      exact coAt_ky false (by omega) hx hx'
theorem KeyVals.sortable {h : Heap} {vs : List Value} {ks : List Ky} (R : KeyVals h vs ks) (hk : ∀ k ∈ ks, k ∈ keysS) : Sortable h vs ks := by
  obtain ⟨hlen, hr⟩ := R
  refine ⟨katTups_of fun v hv => ?_, fun i j hi hj => ?_⟩
  · obtain ⟨i, hi, rfl⟩ := List.getElem_of_mem hv
    obtain ⟨a, e, hx⟩ := hr i vs[i] (ks[i]'(hlen ▸ hi)) (by simp) (by simp)
    obtain ⟨o, xs, n, q, t1, t2, t3, ho, hc, hd, he, hq⟩ := hx.open
    obtain ⟨q', qo, qv, qn, qe, hqo, hqc, _⟩ := hq.tup_inv
    cases qe
    exact ⟨a, o, xs, n, .ref q, e, ho, hc, hd, by rw [← Array.getElem?_toList, he]; rfl, q, qo, rfl, hqo, hqc⟩
  · obtain ⟨a, e, hx⟩ := hr i (vs[i]'(hlen ▸ hi)) ks[i] (by simp [hlen, hi]) (by simp)
    obtain ⟨a', e', hx'⟩ := hr j (vs[j]'(hlen ▸ hj)) ks[j] (by simp [hlen, hj]) (by simp)
    obtain ⟨o, xs, n, q, t1, t2, t3, ho, hc, hd, he, hq⟩ := hx.open
    obtain ⟨o', xs', n', q', u1, u2, u3, ho', hc', hd', he', hq'⟩ := hx'.open
    refine ⟨a, a', o, o', xs, xs', n, n', by rw [getD_of (hlen ▸ hi)]; exact e, by rw [getD_of (hlen ▸ hj)]; exact e', ho, hd, ho', hd', fun A s hs hu => ?_⟩
    subst hs
    rw [getD_of hi, getD_of hj, ← kyCmp_rk _ (hk _ (List.getElem_mem _)) _ (hk _ (List.getElem_mem _))]
    have z1 : xs.size = 4 := by rw [← Array.length_toList, he]; rfl
    have z2 : xs'.size = 4 := by rw [← Array.length_toList, he']; rfl
    have := lex_ky (A := A) (s := s) false (m := xs.size) (n := xs'.size) (by omega) z1 z2 ⟨q, t1, t2, t3, he, hq⟩ ⟨q', u1, u2, u3, he', hq'⟩
    exact this
end Mine
end F_BaseS
section F_BaseT
open PySem PySem.W PySem.Spec PySem.Calls PyProof.Rows PySem.SeqAt
namespace Mine
noncomputable def rowP (x : Ky × Ent) : PyData := .tuple [kyP x.1, psP x.2.ps, .int x.2.b, .int x.2.n]
section
variable {w : World} {A : Around} {E : Value → Shared → Prop} {s : Shared} {h₀ : Heap} {L : Addr} {m : Str → Option Value} {news tl : List (Addr × Obj)} {Q : Value → Shared → Prop}
variable {env : Env}
end
end Mine
end F_BaseT
section F_BaseU
open PySem PySem.W PySem.Spec PySem.Calls PyProof.Rows PySem.SeqAt
namespace Mine
section
variable {prog : Program} {w : World} {A₀ A : Around} {s : Shared} {base h₀ : Heap} {outer : List Env} {L : Addr} {m mg mb : Str → Option Value} {env : Env} {W : List (Addr × Obj)} {K : Frag} {p : Program} {loose : List Str} {mean : ExcName → Option Value}
end
theorem range_small : ∀ n : Nat, n ≤ 100 → Builtin.Range.small 0 (n : Int) 1 = true := by
  have h : ∀ n : _root_.Fin 101, Builtin.Range.small 0 ((n.val : Nat) : Int) 1 = true := by decide +kernel
  exact fun n hn => h ⟨n, by omega⟩
section
variable {w : World} {A : Around} {E : Value → Shared → Prop} {s : Shared} {h₀ : Heap} {L : Addr} {m : Str → Option Value} {env : Env} {news : List (Addr × Obj)}
end
end Mine
end F_BaseU
section F_Abs1
open PySem PySem.W PySem.Spec PySem.Calls PyProof.Rows
namespace Mine
inductive D where
  | none | bool (b : Bool) | int (i : Int) | str (s : Str) | bytes (b : Array UInt8)
  | tup (xs : List D) | ref (a : Addr)
mutual
inductive VR (h : Heap) : Value → D → Prop
  | none : VR h .none .none
  | bool (b) : VR h (.bool b) (.bool b)
  | int (i t) : VR h (.int i t) (.int i)
  | str (x t) : VR h (.str x t) (.str x)
  | bytes (b t) : VR h (.bytes b t) (.bytes b)
  | ref (a) : VR h (.ref a) (.ref a)
  | tup {a o vs n ds} : h.get? a = some o → o.cls = .type "tuple" → o.data = .seq vs n → VRs h vs.toList ds → VR h (.ref a) (.tup ds)
inductive VRs (h : Heap) : List Value → List D → Prop
  | nil : VRs h [] []
  | cons {v d vs ds} : VR h v d → VRs h vs ds → VRs h (v :: vs) (d :: ds)
end
noncomputable def TupK (h h' : Heap) : Prop := ∀ b o, o.cls = .type "tuple" → isSeqO o → h.get? b = some o → h'.get? b = some o
theorem TupK.refl {h} : TupK h h := fun _ _ _ _ e => e
theorem TupK.trans {h h' h''} (a : TupK h h') (b : TupK h' h'') : TupK h h'' := fun x o c q e => b x o c q (a x o c q e)
theorem VR.keep {h h' : Heap} (k : TupK h h') {v d} (x : VR h v d) : VR h' v d :=
  VR.rec (motive_1 := fun v d _ => VR h' v d) (motive_2 := fun vs ds _ => VRs h' vs ds) .none .bool .int .str .bytes .ref (fun h1 h2 h3 _ ih => .tup (k _ _ h2 ⟨_, _, h3⟩ h1) h2 h3 ih) .nil (fun _ _ a b => .cons a b) x
theorem VRs.keep {h h' : Heap} (k : TupK h h') {vs ds} (x : VRs h vs ds) : VRs h' vs ds :=
  VRs.rec (motive_1 := fun _ _ _ => True) (motive_2 := fun vs ds _ => VRs h' vs ds) trivial (fun _ => trivial) (fun _ _ => trivial) (fun _ _ => trivial) (fun _ _ => trivial) (fun _ => trivial) (fun _ _ _ _ _ => trivial) .nil (fun a _ _ b => .cons (a.keep k) b) x
inductive TupI (h : Heap) (v : Value) (ds : List D) : Prop
  | in_ (a : Addr) (o : Obj) (vs : Array Value) (n) (_ : v = .ref a) (_ : h.get? a = some o) (_ : o.cls = .type "tuple") (_ : o.data = .seq vs n) (_ : VRs h vs.toList ds) : TupI h v ds
inductive ConsI (h : Heap) (vs : List Value) (d : D) (ds : List D) : Prop
  | in_ (v : Value) (r : List Value) (_ : vs = v :: r) (_ : VR h v d) (_ : VRs h r ds) : ConsI h vs d ds
noncomputable def VRI (h : Heap) (v : Value) : D → Prop
  | .none => v = .none
  | .bool b => v = .bool b
  | .int i => ∃ t, v = .int i t
  | .str x => ∃ t, v = .str x t
  | .bytes b => ∃ t, v = .bytes b t
  | .ref a => v = .ref a
  | .tup ds => TupI h v ds
noncomputable def VRsI (h : Heap) (vs : List Value) : List D → Prop
  | [] => vs = []
  | d :: ds => ConsI h vs d ds
theorem VR.inv {h v d} (x : VR h v d) : VRI h v d := by
  cases x with
  | tup h1 h2 h3 h4 => exact ⟨_, _, _, _, rfl, h1, h2, h3, h4⟩
  | int _ t => exact ⟨t, rfl⟩
  | str _ t => exact ⟨t, rfl⟩
  | bytes _ t => exact ⟨t, rfl⟩
  | _ => rfl
theorem VRs.inv {h vs ds} (x : VRs h vs ds) : VRsI h vs ds := by
  cases x with
  | nil => rfl
  | cons a b => exact ⟨_, _, rfl, a, b⟩
theorem VR.tup_inv {h v ds} (x : VR h v (.tup ds)) : TupI h v ds := x.inv
theorem VR.int_inv {h v i} (x : VR h v (.int i)) : ∃ t, v = .int i t := x.inv
theorem VR.str_inv {h v i} (x : VR h v (.str i)) : ∃ t, v = .str i t := x.inv
theorem VR.bytes_inv {h v i} (x : VR h v (.bytes i)) : ∃ t, v = .bytes i t := x.inv
theorem VR.bool_inv {h v i} (x : VR h v (.bool i)) : v = .bool i := x.inv
theorem VR.none_inv {h v} (x : VR h v .none) : v = .none := x.inv
theorem VR.ref_inv {h v i} (x : VR h v (.ref i)) : v = .ref i := x.inv
theorem VRs.nil_inv {h vs} (x : VRs h vs []) : vs = [] := x.inv
theorem VRs.cons_inv {h vs d ds} (x : VRs h vs (d :: ds)) : ConsI h vs d ds := x.inv
theorem VRs.length {h vs ds} (x : VRs h vs ds) : vs.length = ds.length := by
  induction ds generalizing vs with
  | nil => rw [x.nil_inv]; rfl
  | cons d ds ih => obtain ⟨v, r, rfl, _, b⟩ := x.cons_inv; exact congrArg (· + 1) (ih b)
theorem VRs.append {h vs ds ws es} (x : VRs h vs ds) (y : VRs h ws es) : VRs h (vs ++ ws) (ds ++ es) := by
  induction ds generalizing vs with
  | nil => rw [x.nil_inv]; exact y
  | cons d ds ih => obtain ⟨v, r, rfl, a, b⟩ := x.cons_inv; exact .cons a (ih b)
theorem VRs.get {h vs ds} (x : VRs h vs ds) {i : Nat} {d} (hi : ds[i]? = some d) : ∃ v, vs[i]? = some v ∧ VR h v d := by
  induction ds generalizing vs i with
  | nil => cases hi
  | cons e ds ih =>
    obtain ⟨v, r, rfl, p, q⟩ := x.cons_inv
    cases i with
    | zero => exact ⟨_, rfl, Option.some.inj hi ▸ p⟩
    | succ i => exact ih q hi
theorem VRs.take {h vs ds} (x : VRs h vs ds) (n : Nat) : VRs h (vs.take n) (ds.take n) := by
  induction ds generalizing vs n with
  | nil => rw [x.nil_inv]; cases n <;> exact .nil
  | cons d ds ih =>
    obtain ⟨v, r, rfl, a, b⟩ := x.cons_inv
    cases n with
    | zero => exact .nil
    | succ n => exact .cons a (ih b n)
theorem VRs.drop {h vs ds} (x : VRs h vs ds) (n : Nat) : VRs h (vs.drop n) (ds.drop n) := by
  induction ds generalizing vs n with
  | nil => rw [x.nil_inv]; cases n <;> exact .nil
  | cons d ds ih =>
    cases n with
    | zero => exact x
    | succ n => obtain ⟨v, r, rfl, a, b⟩ := x.cons_inv; exact ih b n
theorem VRs.set {h vs ds v d} (x : VRs h vs ds) (n : Nat) (y : VR h v d) : VRs h (vs.set n v) (ds.set n d) := by
  induction ds generalizing vs n with
  | nil => rw [x.nil_inv]; exact .nil
  | cons d ds ih =>
    obtain ⟨v, r, rfl, a, b⟩ := x.cons_inv
    cases n with
    | zero => exact .cons y b
    | succ n => exact .cons a (ih b n)
inductive AObj where
  | list (xs : List D)
  | fix (o : Obj) (xs : List D)
  | dict (es : List (Ky × D))
  | inst (C td : Addr)
  | attrs (fs : List (Str × D))
  | barr (b : Array UInt8)
  | cell (v : Option D)
  | lam (e : Expr) (sc : Scope) (cl : List (Str × Addr)) (c : Addr) (q : Str)
  | code (q : Str) | tab (ps : List (Int × Int × Addr))
  | vals (d : Addr) | items (d : Addr) | range (n : Nat) | enumb (b : Array UInt8)
  | exc (C : Addr) (nd : Bool)
noncomputable abbrev St := Addr → Option AObj
noncomputable def St.put (σ : St) (a : Addr) (o : AObj) : St := fun b => if b = a then some o else σ b
theorem St.put_same {σ : St} {a o} : σ.put a o a = some o := by simp [St.put]
theorem St.put_ne {σ : St} {a b o} (n : b ≠ a) : σ.put a o b = σ b := by simp [St.put, n]
inductive DRows (h : Heap) : List (Ky × Addr × Value) → List (Ky × D) → Prop
  | nil : DRows h [] []
  | cons {k a v d xs es} : VR h v d → DRows h xs es → DRows h ((k, a, v) :: xs) ((k, d) :: es)
theorem DRows.keep {h h' : Heap} (k : TupK h h') {xs es} (r : DRows h xs es) : DRows h' xs es := by
  induction r with
  | nil => exact .nil
  | cons a _ ih => exact .cons (a.keep k) ih
inductive ARows (w : World) (h : Heap) : List DictEntry → List (Str × D) → Prop
  | nil : ARows w h [] []
  | cons {x t v d es fs} : VR h v d → ARows w h es fs → ARows w h (⟨PyData.keyHash w.params x, .str x t, v⟩ :: es) ((x, d) :: fs)
theorem ARows.keep {w} {h h' : Heap} (k : TupK h h') {xs es} (r : ARows w h xs es) : ARows w h' xs es := by
  induction r with
  | nil => exact .nil
  | cons a _ ih => exact .cons (a.keep k) ih
noncomputable def tabVs : List (Int × Int × Addr) → List Value
  | [] => []
  | (l, k, c) :: r => .int l 0 :: .int k 0 :: .ref c :: tabVs r
inductive LstO (h : Heap) (a : Addr) (xs : List D) : Prop
  | in_ (o : Obj) (vs : Array Value) (n) (_ : h.get? a = some o) (_ : o.cls = .type "list") (_ : o.data = .seq vs n) (_ : VRs h vs.toList xs) : LstO h a xs
inductive FixO (h : Heap) (a : Addr) (o : Obj) (xs : List D) : Prop
  | in_ (_ : h.get? a = some o) (_ : o.cls = .type "list") (vs : Array Value) (n) (_ : o.data = .seq vs n) (_ : VRs h vs.toList xs) : FixO h a o xs
inductive DicO (w : World) (h : Heap) (a : Addr) (es : List (Ky × D)) : Prop
  | in_ (xs : List (Ky × Addr × Value)) (_ : h.DictOfH (kyK prg w) a xs) (_ : DRows h xs es) : DicO w h a es
inductive AttO (w : World) (h : Heap) (a : Addr) (fs : List (Str × D)) : Prop
  | in_ (es : List DictEntry) (n : Nat) (_ : h.get? a = some (dictOf es n)) (_ : ARows w h es fs) : AttO w h a fs
inductive BarO (h : Heap) (a : Addr) (b : Array UInt8) : Prop
  | in_ (o : Obj) (_ : h.get? a = some o) (_ : o.cls = .type "bytearray") (_ : o.data = .bytearray b 0) (_ : o.dict = none) : BarO h a b
inductive CodO (h : Heap) (a : Addr) (q : Str) : Prop
  | in_ (o : Obj) (vs : Array Value) (t : Tok) (_ : h.get? a = some o) (_ : o.data = .fields vs) (_ : vs[1]? = some (.str q t)) : CodO h a q
inductive ViwO (h : Heap) (a d : Addr) (c : String) : Prop
  | in_ (o : Obj) (_ : h.get? a = some o) (_ : o.cls = .type c) (_ : o.data = .fields #[.ref d]) : ViwO h a d c
inductive ExcO (h : Heap) (a C : Addr) (nd : Bool) : Prop
  | in_ (t : Addr) (od : Option Addr) (_ : h.get? a = some { cls := .ref C, dict := od, data := .fields #[.ref t, .none, .none, .none, .bool false, .none] }) (_ : nd = true → od = none) : ExcO h a C nd
noncomputable def ORep (w : World) (h : Heap) (a : Addr) : AObj → Prop
  | .list xs => LstO h a xs
  | .fix o xs => FixO h a o xs
  | .dict es => DicO w h a es
  | .inst C td => h.get? a = some (instObj C td)
  | .attrs fs => AttO w h a fs
  | .barr b => BarO h a b
  | .cell v => match v with | none => h.IsCell a none | some d => ∃ v, h.IsCell a (some v) ∧ VR h v d
  | .lam e sc cl c q => ∃ name pm ct, h.get? a = some (kla_obj name q { posonlyargs := [], args := [], vararg := none, kwonlyargs := [], kw_defaults := [], kwarg := none, defaults := [] } e sc cl pm c ct)
  | .code q => CodO h a q
  | .tab ps => h.get? a = some (tabObj (tabVs ps).toArray)
  | .vals d => ViwO h a d "dict_values"
  | .items d => ViwO h a d "dict_items"
  | .range n => ∃ t u v, IsRange h a 0 (n : Int) 1 t u v
  | .enumb _ => ∃ o, h.get? a = some o ∧ o.cls = .type "enumerate"
  | .exc C nd => ExcO h a C nd
theorem isKy.keepT {h h' : Heap} (k : TupK h h') {x : Ky} {a : Addr} (i : isKy h x a) : isKy h' x a := by
  obtain ⟨as, r⟩ := i
  have conv : ∀ {v d'}, TupOnly d' → ∀ {as}, Reads h v d' as → Rd h' v d' := by
    intro v d' t as r
    obtain ⟨tl, a1, b1⟩ := rd_collect r t
    exact b1 h' fun p hp => k _ _ (a1 p hp).2.1 (a1 p hp).2.2 (a1 p hp).1
  exact conv (tupOnly_ky x) r
theorem dictH_keep {w : World} {h h' : Heap} (k : TupK h h') {a : Addr} (e : ∀ o, h.get? a = some o → h'.get? a = some o) {xs} (x : h.DictOfH (kyK prg w) a xs) : h'.DictOfH (kyK prg w) a xs := by
  obtain ⟨o, es, ep, ho, hc, hd, he, hi, hn⟩ := x
  exact ⟨o, es, ep, e _ ho, hc, hd, he, fun p hp => isKy.keepT k (hi p hp), hn⟩
theorem ORep.keep {w : World} {h h' : Heap} (k : TupK h h') {a : Addr} (e : ∀ o, h.get? a = some o → h'.get? a = some o) {o : AObj} (x : ORep w h a o) : ORep w h' a o := by
  cases o with
  | list xs => obtain ⟨o, vs, n, h1, h2, h3, h4⟩ := x; exact ⟨o, vs, n, e _ h1, h2, h3, h4.keep k⟩
  | fix o xs => obtain ⟨h1, h2, vs, n, h3, h4⟩ := x; exact ⟨e _ h1, h2, vs, n, h3, h4.keep k⟩
  | dict es => obtain ⟨xs, y, z⟩ := x; exact ⟨xs, dictH_keep k e y, z.keep k⟩
  | inst C td => exact e _ x
  | attrs fs => obtain ⟨es, n, y, z⟩ := x; exact ⟨es, n, e _ y, z.keep k⟩
  | barr b => obtain ⟨o, y, z, z1, z2⟩ := x; exact ⟨o, e _ y, z, z1, z2⟩
  | cell v => cases v with
    | none => exact x.elim fun o y => ⟨o, e _ y.1, y.2⟩
    | some d => exact x.elim fun v y => y.1.elim fun o z => ⟨v, ⟨o, e _ z.1, z.2⟩, y.2.keep k⟩
  | lam => exact x.elim fun n y => y.elim fun p z => z.elim fun c h1 => ⟨n, p, c, e _ h1⟩
  | code q => obtain ⟨o, vs, t, y, z, z'⟩ := x; exact ⟨o, vs, t, e _ y, z, z'⟩
  | tab ps => exact e _ x
  | vals d => obtain ⟨o, y, z, z'⟩ := x; exact ⟨o, e _ y, z, z'⟩
  | items d => obtain ⟨o, y, z, z'⟩ := x; exact ⟨o, e _ y, z, z'⟩
  | range n => exact x.elim fun t y => y.elim fun u z => z.elim fun v h1 => ⟨t, u, v, e _ h1⟩
  | enumb b => exact x.elim fun o y => ⟨o, e _ y.1, y.2⟩
  | exc C nd => obtain ⟨t, od, y, z⟩ := x; exact ⟨t, od, e _ y, z⟩
theorem notTupC {ob : Obj} (h : (ob.cls == Value.type "tuple") = false) : ¬ (ob.cls = .type "tuple" ∧ isSeqO ob) := fun q => by rw [q.1] at h; cases h
theorem notTupL {ob : Obj} (h : ob.cls = .type "list") : ¬ (ob.cls = .type "tuple" ∧ isSeqO ob) := notTupC (by rw [h]; rfl)
theorem notTupD {ob : Obj} {d : Data} (h : ob.data = d) (hd : ∀ vs n, d ≠ .seq vs n) : ¬ (ob.cls = .type "tuple" ∧ isSeqO ob) := fun q => q.2.elim fun vs y => y.elim fun n z => hd vs n (h.symm.trans z)
theorem ORep.some_ {w : World} {h : Heap} {a : Addr} {o : AObj} (x : ORep w h a o) : ∃ ob, h.get? a = some ob ∧ ¬ (ob.cls = .type "tuple" ∧ isSeqO ob) := by
  cases o with
  | list xs => obtain ⟨o, vs, n, h1, h2, _⟩ := x; exact ⟨o, h1, notTupL h2⟩
  | fix o xs => obtain ⟨h1, h2, _⟩ := x; exact ⟨o, h1, notTupL h2⟩
  | dict es => obtain ⟨xs, ⟨o, es', ep, h1, hc, hd, _⟩, _⟩ := x; exact ⟨o, h1, notTupD hd fun _ _ q => Data.noConfusion q⟩
  | inst C td => exact ⟨_, x, notTupD rfl fun _ _ q => Data.noConfusion q⟩
  | attrs fs => obtain ⟨es, n, h1, _⟩ := x; exact ⟨_, h1, notTupD rfl fun _ _ q => Data.noConfusion q⟩
  | barr b => obtain ⟨o, h1, h2, h3, _⟩ := x; exact ⟨_, h1, notTupD h3 fun _ _ q => Data.noConfusion q⟩
  | cell v => cases v with
    | none => obtain ⟨o, h1, h2⟩ := x; exact ⟨_, h1, notTupD h2 fun _ _ q => Data.noConfusion q⟩
    | some d => obtain ⟨v, ⟨o, h1, h2⟩, _⟩ := x; exact ⟨_, h1, notTupD h2 fun _ _ q => Data.noConfusion q⟩
  | lam => obtain ⟨n, p, c, h1⟩ := x; exact ⟨_, h1, notTupD rfl fun _ _ q => Data.noConfusion q⟩
  | code q => obtain ⟨o, vs, t, h1, h2, _⟩ := x; exact ⟨_, h1, notTupD h2 fun _ _ q => Data.noConfusion q⟩
  | tab ps => exact ⟨_, x, notTupC rfl⟩
  | vals d => obtain ⟨o, h1, _, h3⟩ := x; exact ⟨_, h1, notTupD h3 fun _ _ q => Data.noConfusion q⟩
  | items d => obtain ⟨o, h1, _, h3⟩ := x; exact ⟨_, h1, notTupD h3 fun _ _ q => Data.noConfusion q⟩
  | range n => obtain ⟨t, u, v, h1⟩ := x; exact ⟨_, h1, notTupD rfl fun _ _ q => Data.noConfusion q⟩
  | enumb b => obtain ⟨o, h1, h2⟩ := x; exact ⟨o, h1, notTupC (by rw [h2]; rfl)⟩
  | exc C nd => obtain ⟨t, od, h1, _⟩ := x; exact ⟨_, h1, notTupD rfl fun _ _ q => Data.noConfusion q⟩
end Mine
end F_Abs1
section F_Abs2
open PySem PySem.W PySem.Spec PySem.Calls PyProof.Rows
namespace Mine
structure Cx where
  w : World
  hB : Heap
  A : Around
  frs : List Env
  env : Env
inductive NK | loc | cel | fre | glb | cod (c : Addr) (q : Str)
  deriving DecidableEq
structure Lc where
  loc : Str → Option D
  cel : List (Str × Addr)
noncomputable def codeTabs : List (Addr × Addr) := [(309, 305), (321, 317)]
structure Glob (w : World) (hB : Heap) : Prop where
  Cd : ∀ p ∈ codeTabs, CodeHd hB p.1 p.2
  K : (hd.heap_1 w.params).In hB
  T : ∃ loose mean mg mb, Top topProg loose mean mg mb hB
noncomputable def Cx.fr (X : Cx) : List Addr := X.env.locals :: X.frs.filterMap (·.frame)
structure Fm (nk : Str → Option NK) (n c : Nat) (X : Cx) : Prop where
  G : Glob X.w X.hB
  fr : ∃ fe out L, X.frs = fe :: out ∧ fe.frame = some L ∧ X.env.frame = some L
  frames : X.A.frames = some X.frs
  handled : X.A.handled = none
  guards : X.A.guards = some []
  depth : X.A.depth + n + 4 < recursionLimit
  units : X.A.units + 200 * n + 10 * c + 100 < cLine
  kind : X.env.scope.kind = .function
  names : ∀ x k, nk x = some k → match k with | .loc => X.env.kindOf x = some .local | .cel => X.env.kindOf x = some .cell | .fre => X.env.kindOf x = some .cell ∨ X.env.kindOf x = some .free | .glb => X.env.kindOf x = some .globalImplicit | .cod c q => X.env.code = .ref c ∧ X.env.qual = q
  globals : X.env.globals = mainGlobals
  builtins : X.env.builtins = builtinsNs
noncomputable def FF (h base : Heap) (l : List Env) : Prop := ∀ env ∈ l, env.scope.kind ≠ .module ∧ ∃ L m, env.frame = some L ∧ base.get? L = none ∧ h.Ns L m
theorem FF.fun {h base : Heap} : ∀ {l : List Env}, FF h base l → h.FunFrames base l
  | [], _ => trivial
  | env :: r, x => by
    obtain ⟨hk, L, m, hf, hn, o, es, ep, ho, hd, _⟩ := x env (.head _)
    exact ⟨hk, ⟨L, o, hf, hn, ho, fun vs q => by rw [hd] at q; cases q⟩, FF.fun fun e he => x e (.tail _ he)⟩
structure Dy (X : Cx) (ℓ : Lc) (σ : St) (h : Heap) : Prop where
  stays : X.hB.StaysIn h
  two : ∃ o, X.hB.get? cStatics = some o
  frames : FF h X.hB X.frs
  off : ∀ L ∈ X.fr, σ L = none
  offL : X.hB.get? X.env.locals = none
  own : ∃ m, h.Ns X.env.locals m ∧ ∀ x d, ℓ.loc x = some d → ∃ v, m x = some v ∧ VR h v d
  cel : X.env.cells = ℓ.cel
  low : ∀ a, σ a ≠ none → X.hB.get? a = none ∧ sysModules < a
  rep : ∀ a o, σ a = some o → ORep X.w h a o
noncomputable def New (h : Heap) (a : Addr) : Prop := h.get? a = none ∧ sysModules < a
structure Kp (fr xs : List Addr) (σ : St) (h : Heap) (σ' : St) (h' : Heap) : Prop where
  keep : ∀ a o, h.get? a = some o → σ a = none → a ∉ fr → a ∉ xs → h'.get? a = some o
  ns : ∀ a m, h.Ns a m → σ a = none → a ∈ fr → a ∉ xs → h'.Ns a m
  live : ∀ a o, h.get? a = some o → ∃ o', h'.get? a = some o'
  new : ∀ a, σ' a ≠ none → σ a ≠ none ∨ New h a
  mono : ∀ a, σ a ≠ none → σ' a ≠ none
theorem get_ge {h : Heap} {a : Addr} (q : h.objs.size ≤ a) : h.get? a = none := by
  cases e : h.get? a with
  | none => rfl
  | some o => exact absurd (Heap.lt_size e) (Nat.not_lt.mpr q)
theorem get_size (h : Heap) : h.get? h.objs.size = none := get_ge (Nat.le_refl _)
theorem Kp.refl {fr xs σ h} : Kp fr xs σ h σ h := ⟨fun _ _ e _ _ _ => e, fun _ m e _ _ _ => e, fun _ o e => ⟨o, e⟩, fun _ n => .inl n, fun _ n => n⟩
theorem Kp.none_ {fr xs σ h σ' h'} (x : Kp fr xs σ h σ' h') {a o} (e : h.get? a = some o) (n : σ a = none) : σ' a = none := by
  cases q : σ' a with
  | none => rfl
  | some p => rcases x.new a (by rw [q]; simp) with y | y
              · exact absurd n y
              · rw [y.1] at e; cases e
theorem ns_some {h : Heap} {a m} (n : h.Ns a m) : ∃ o, h.get? a = some o := let ⟨o, _, _, e, _⟩ := n; ⟨o, e⟩
theorem Kp.back {fr xs σ h σ' h' a} (x : Kp fr xs σ h σ' h') (n : New h' a) : New h a := by
  refine ⟨?_, n.2⟩
  cases e : h.get? a with
  | none => rfl
  | some o => obtain ⟨o', e1⟩ := x.live a o e; rw [n.1] at e1; cases e1
theorem Kp.trans {fr xs σ h σ' h' σ'' h''} (x : Kp fr xs σ h σ' h') (y : Kp fr xs σ' h' σ'' h'') : Kp fr xs σ h σ'' h'' where
  keep := fun a o e n h1 h2 => y.keep a o (x.keep a o e n h1 h2) (x.none_ e n) h1 h2
  ns := fun a m hn n h1 h2 => by
    obtain ⟨o, e⟩ := ns_some hn
    exact y.ns a m (x.ns a m hn n h1 h2) (x.none_ e n) h1 h2
  live := fun a o e => by
    obtain ⟨o', e1⟩ := x.live a o e
    exact y.live a o' e1
  new := fun a q => by
    rcases y.new a q with z | z
    · exact x.new a z
    · exact .inr (x.back z)
  mono := fun a q => y.mono a (x.mono a q)
theorem Kp.more {fr xs xs' σ h σ' h'} (x : Kp fr xs σ h σ' h') (s : ∀ a ∈ xs, a ∈ xs') : Kp fr xs' σ h σ' h' where
  keep := fun a o e n h1 h2 => x.keep a o e n h1 fun q => h2 (s a q)
  ns := fun a m hn n h1 h2 => x.ns a m hn n h1 fun q => h2 (s a q)
  live := x.live
  new := x.new
  mono := x.mono
theorem Kp.outer {fr fr' xs xs' σ h σ' h'} (x : Kp fr' xs' σ h σ' h') (s : ∀ a ∈ fr', a ∈ fr ∨ h.get? a = none) (s' : ∀ a ∈ xs', a ∈ xs ∨ h.get? a = none) : Kp fr xs σ h σ' h' where
  keep := fun a o e n h1 h2 => x.keep a o e n (fun q => (s a q).elim h1 fun z => by rw [e] at z; cases z) (fun q => (s' a q).elim h2 fun z => by rw [e] at z; cases z)
  ns := fun a m hn n h1 h2 => by
    obtain ⟨o, e⟩ := ns_some hn
    have hx : a ∉ xs' := fun q => (s' a q).elim h2 fun z => by rw [e] at z; cases z
    by_cases q : a ∈ fr'
    · exact x.ns a m hn n q hx
    · exact hn.at' fun o e => x.keep a o e n q hx
  live := x.live
  new := x.new
  mono := x.mono
theorem Dy.frD {X ℓ σ h} (y : Dy X ℓ σ h) {a : Addr} (q : a ∈ X.fr) : ∃ m, h.Ns a m ∧ X.hB.get? a = none := by
  rcases List.mem_cons.mp q with rfl | q
  · obtain ⟨m, n, _⟩ := y.own; exact ⟨m, n, y.offL⟩
  · obtain ⟨env, he, hf⟩ := List.mem_filterMap.mp q
    obtain ⟨_, L, m, hf', hn, n⟩ := y.frames env he
    rw [hf] at hf'; cases hf'; exact ⟨m, n, hn⟩
theorem Dy.newA {X ℓ σ h} (y : Dy X ℓ σ h) : New h h.objs.size := by
  obtain ⟨o, e⟩ := y.two
  exact ⟨get_size h, Nat.lt_trans (show sysModules < cStatics by decide) (Heap.lt_size (y.stays _ _ e))⟩
theorem Kp.tupK {X ℓ σ h xs σ' h'} (y : Dy X ℓ σ h) (x : Kp X.fr xs σ h σ' h') (hx : ∀ a ∈ xs, a ∈ X.fr) : TupK h h' := by
  intro b o hc hs e
  have hn : σ b = none := by
    cases q : σ b with
    | none => rfl
    | some p =>
      obtain ⟨ob, e', n⟩ := (y.rep b p q).some_
      rw [e] at e'; cases e'; exact absurd ⟨hc, hs⟩ n
  have hf : b ∉ X.fr := fun q => by
    obtain ⟨m, n, _⟩ := y.frD q
    exact ns_notSeq n e hs
  exact x.keep b o e hn hf fun q => hf (hx b q)
theorem Dy.none_ {X ℓ σ h} (y : Dy X ℓ σ h) {b o} (e : X.hB.get? b = some o) : σ b = none := by
  cases q : σ b with
  | none => rfl
  | some p => have := (y.low b (by rw [q]; simp)).1; rw [e] at this; cases this
theorem Dy.to {X ℓ σ h σ' h'} (y : Dy X ℓ σ h) (x : Kp X.fr [] σ h σ' h') (rep : ∀ a o, σ' a = some o → ORep X.w h' a o) : Dy X ℓ σ' h' where
  stays := fun b o e => x.keep b o (y.stays b o e) (y.none_ e) (fun q => by obtain ⟨_, _, n⟩ := y.frD q; rw [e] at n; cases n) (fun q => nomatch q)
  two := y.two
  frames := fun env he => by
    obtain ⟨hk, L, m, hf, hn, n⟩ := y.frames env he
    have hL : L ∈ X.fr := .tail _ (List.mem_filterMap.mpr ⟨env, he, hf⟩)
    exact ⟨hk, L, m, hf, hn, x.ns L m n (y.off L hL) hL (fun q => nomatch q)⟩
  off := fun L hL => by
    obtain ⟨m, ⟨o, _, _, ho, _⟩, _⟩ := y.frD hL
    exact x.none_ ho (y.off L hL)
  offL := y.offL
  own := by
    obtain ⟨m, n, q⟩ := y.own
    refine ⟨m, x.ns _ m n (y.off _ (.head _)) (.head _) (fun q => nomatch q), fun z d e => ?_⟩
    obtain ⟨v, a, b⟩ := q z d e
    exact ⟨v, a, b.keep (x.tupK y fun _ q => nomatch q)⟩
  cel := y.cel
  low := fun a q => by
    rcases x.new a q with z | z
    · exact y.low a z
    · refine ⟨?_, z.2⟩
      cases e : X.hB.get? a with
      | none => rfl
      | some o => have := y.stays a o e; rw [z.1] at this; cases this
  rep := rep
theorem Dy.fresh {X ℓ σ h} (y : Dy X ℓ σ h) {a : Addr} (e : New h a) : σ a = none := by
  cases q : σ a with
  | none => rfl
  | some p => obtain ⟨ob, e', _⟩ := (y.rep a p q).some_; rw [e.1] at e'; cases e'
theorem St.put_mono {σ : St} {a o} : ∀ b, σ b ≠ none → σ.put a o b ≠ none := fun b n => by
  by_cases q : b = a
  · subst q; simp [St.put_same]
  · rw [St.put_ne q]; exact n
structure Grw (X : Cx) (ℓ : Lc) (σ : St) (h : Heap) (σ' : St) (h' : Heap) : Prop where
  dy : Dy X ℓ σ' h'
  kp : Kp X.fr [] σ h σ' h'
  t : TupK h h'
theorem Dy.grow {X ℓ σ h h'} (y : Dy X ℓ σ h) (k : ∀ a o, h.get? a = some o → h'.get? a = some o) : Grw X ℓ σ h σ h' := by
  have x : Kp X.fr [] σ h σ h' := ⟨fun a o e _ _ _ => k a o e, fun a m n _ _ _ => n.at' fun o e => k a o e, fun a o e => ⟨o, k a o e⟩, fun _ n => .inl n, fun _ n => n⟩
  have t : TupK h h' := x.tupK y fun _ q => nomatch q
  exact ⟨y.to x fun a o e => (y.rep a o e).keep t (k a), x, t⟩
theorem Dy.push {X ℓ σ h} (y : Dy X ℓ σ h) (o : Obj) : Grw X ℓ σ h σ (h.push o) := y.grow (fun _ _ e => Heap.get?_push_of_some _ e)
theorem Dy.addTo {X ℓ ℓ' σ h h' a o} (y : Dy X ℓ σ h) (y' : Dy X ℓ' σ h') (kp : Kp X.fr [] σ h σ h') (ha : New h a) (r : ORep X.w h' a o) : Dy X ℓ' (σ.put a o) h' ∧ Kp X.fr [] σ h (σ.put a o) h' := by
  have new : ∀ b, σ.put a o b ≠ none → σ b ≠ none ∨ New h b := fun b n => by
    by_cases q : b = a
    · exact .inr (q ▸ ha)
    · rw [St.put_ne q] at n; exact .inl n
  refine ⟨⟨y'.stays, y'.two, y'.frames, fun L hL => ?_, y'.offL, y'.own, y'.cel, fun b n => ?_, fun b ob e => ?_⟩, ⟨kp.keep, kp.ns, kp.live, new, St.put_mono⟩⟩
  · have hne : L ≠ a := fun q => by
      obtain ⟨m, hn, _⟩ := y.frD hL
      obtain ⟨o, e⟩ := ns_some hn
      rw [q, ha.1] at e; cases e
    rw [St.put_ne hne]; exact y'.off L hL
  · rcases new b n with z | z
    · exact y'.low b z
    · refine ⟨?_, z.2⟩
      cases e : X.hB.get? b with
      | none => rfl
      | some o => have := y.stays b o e; rw [z.1] at this; cases this
  · by_cases q : b = a
    · subst q; rw [St.put_same] at e; cases e; exact r
    · rw [St.put_ne q] at e; exact y'.rep b ob e
theorem Dy.add {X ℓ σ h h' a o} (y : Dy X ℓ σ h) (k : ∀ a o, h.get? a = some o → h'.get? a = some o) (ha : New h a) (r : TupK h h' → ORep X.w h' a o) : Grw X ℓ σ h (σ.put a o) h' := by
  obtain ⟨y', kp, t⟩ := y.grow k
  obtain ⟨y2, kp2⟩ := y.addTo y' kp ha (r t)
  exact ⟨y2, kp2, t⟩
theorem Dy.upd {X ℓ σ h h' a o o'} (y : Dy X ℓ σ h) (ha : σ a = some o) (k : ∀ b o, b ≠ a → h.get? b = some o → h'.get? b = some o) (r : TupK h h' → ORep X.w h' a o') : Grw X ℓ σ h (σ.put a o') h' := by
  have k' : ∀ b ob, h.get? b = some ob → σ b = none → h'.get? b = some ob := fun b ob e n => k b ob (fun q => by rw [q, ha] at n; cases n) e
  have t : TupK h h' := by
    intro b ob hc hs e
    refine k b ob (fun q => ?_) e
    obtain ⟨ob', e', n⟩ := (y.rep a o ha).some_
    rw [← q, e] at e'; cases e'; exact n ⟨hc, hs⟩
  have x : Kp X.fr [] σ h (σ.put a o') h' := ⟨fun b ob e n _ _ => k' b ob e n, fun b m n hn _ _ => n.at' fun ob e => k' b ob e hn, (fun b ob e => by
    by_cases q : b = a
    · subst q; obtain ⟨ob', e', _⟩ := (r t).some_; exact ⟨ob', e'⟩
    · exact ⟨ob, k b ob q e⟩), fun b n => by
    by_cases q : b = a
    · exact .inl (by rw [q, ha]; simp)
    · rw [St.put_ne q] at n; exact .inl n, St.put_mono⟩
  refine ⟨y.to x fun b ob e => ?_, x, t⟩
  by_cases q : b = a
  · subst q; rw [St.put_same] at e; cases e; exact r t
  · rw [St.put_ne q] at e; exact (y.rep b ob e).keep t fun o e => k b o q e
noncomputable def emptyH : Heap := {}
theorem emptyH_get (a) : emptyH.get? a = none := by simp [emptyH, Heap.get?]
noncomputable def allOf (h : Heap) (L : Addr) : List (Addr × Obj) := (List.range h.objs.size).filterMap fun a => if a = L then none else (h.get? a).map fun o => (a, o)
theorem mem_allOf {h : Heap} {L a o} : (a, o) ∈ allOf h L ↔ a ≠ L ∧ h.get? a = some o := by
  unfold allOf
  rw [List.mem_filterMap]
  constructor
  · rintro ⟨b, hb, e⟩
    by_cases q : b = L
    · simp [q] at e
    · rw [if_neg q, Option.map_eq_some_iff] at e
      obtain ⟨o', e1, e2⟩ := e
      cases e2; exact ⟨q, e1⟩
  · rintro ⟨n, e⟩
    exact ⟨a, List.mem_range.mpr (Heap.lt_size e), by simp [n, e]⟩
theorem Dy.frE {X ℓ σ h} (y : Dy X ℓ σ h) : ∃ m, Fr emptyH X.env.locals h m ∧ News emptyH X.env.locals h (allOf h X.env.locals) ∧ h.Ns X.env.locals m := by
  obtain ⟨m, n, _⟩ := y.own
  exact ⟨m, ⟨n, (fun b o e => by rw [emptyH_get] at e; cases e), Nat.zero_le _⟩, fun p hp => ⟨(mem_allOf.mp hp).2, (mem_allOf.mp hp).1, emptyH_get _⟩, n⟩
theorem allOf_keep {h h' : Heap} {L : Addr} {new : List (Addr × Obj)} (N : News emptyH L h' (new ++ allOf h L)) : ∀ a o, a ≠ L → h.get? a = some o → h'.get? a = some o :=
  fun a o n e => (N (a, o) (List.mem_append_right _ (mem_allOf.mpr ⟨n, e⟩))).1
noncomputable def allBut (h : Heap) (L d : Addr) : List (Addr × Obj) := (allOf h L).filter fun p => decide (p.1 ≠ d)
theorem mem_allBut {h : Heap} {L d a o} : (a, o) ∈ allBut h L d ↔ a ≠ L ∧ a ≠ d ∧ h.get? a = some o := by
  unfold allBut
  rw [List.mem_filter, mem_allOf]
  simp only [ne_eq, decide_not, Bool.not_eq_true', decide_eq_false_iff_not]
  exact ⟨fun ⟨⟨a, b⟩, c⟩ => ⟨a, c, b⟩, fun ⟨a, c, b⟩ => ⟨⟨a, b⟩, c⟩⟩
theorem Dy.growN {X ℓ σ h h' m new} (y : Dy X ℓ σ h) (hm : h.Ns X.env.locals m) (F : Fr emptyH X.env.locals h' m) (N : News emptyH X.env.locals h' (new ++ allOf h X.env.locals)) : Grw X ℓ σ h σ h' := by
  have k := allOf_keep N
  have x : Kp X.fr [] σ h σ h' := ⟨fun a o e _ n _ => k a o (fun q => n (q ▸ .head _)) e, fun a m' n _ _ _ => by
    by_cases q : a = X.env.locals
    · subst q; rw [n.eq_nsMap, ← hm.eq_nsMap]; exact F.ns
    · exact n.at' fun o e => k a o q e, (fun a o e => by
    by_cases q : a = X.env.locals
    · subst q; exact ns_some F.ns
    · exact ⟨o, k a o q e⟩), fun _ n => .inl n, fun _ n => n⟩
  have t : TupK h h' := x.tupK y fun _ q => nomatch q
  exact ⟨y.to x fun a o e => (y.rep a o e).keep t fun ob e' => k a ob (fun q => by rw [q, y.off _ (.head _)] at e; cases e) e', x, t⟩
end Mine
end F_Abs2
section F_Abs3
open PySem PySem.W PySem.Spec PySem.Calls PyProof.Rows
namespace Mine
inductive ExcAtH (hB h0 h : Heap) (σ : St) (C e : Addr) : Prop
  | in_ (oe : Obj) (vs : Array Value) (_ : h.get? e = some oe) (_ : oe.cls = .ref C) (_ : oe.data = .fields vs) (_ : 1 < vs.size) (_ : New h0 e) (_ : σ e = none ∧ hB.get? e = none)
    (_ : vs[1]? = some .none ∨ ∃ T oT ts, vs[1]? = some (.ref T) ∧ T ≠ e ∧ h.get? T = some oT ∧ oT.data = .fields ts ∧ 3 < ts.size ∧ New h0 T ∧ σ T = none ∧ hB.get? T = none) : ExcAtH hB h0 h σ C e
noncomputable abbrev ExcAt (X : Cx) (h0 h : Heap) (σ : St) (C e : Addr) : Prop := ExcAtH X.hB h0 h σ C e
inductive PE (X : Cx) (ℓ : Lc) (σ : St) (s : Shared) (Q : D → St → Prop) (v : Value) (s' : Shared) : Prop
  | in_ (d : D) (σ' : St) (h' : Heap) (tk' : Nat) (_ : s' = { s with heap := h', toks := tk' }) (_ : VR h' v d) (_ : Dy X ℓ σ' h') (_ : Kp X.fr [] σ s.heap σ' h') (_ : Q d σ') : PE X ℓ σ s Q v s'
inductive PX (X : Cx) (xs : List Addr) (σ : St) (s : Shared) (E : Addr → St → Prop) (v : Value) (s' : Shared) : Prop
  | in_ (C : Addr) (e : Addr) (ℓ' : Lc) (σ' : St) (h' : Heap) (tk' : Nat) (_ : s' = { s with heap := h', toks := tk' }) (_ : v = .ref e) (_ : Dy X ℓ' σ' h') (_ : Kp X.fr xs σ s.heap σ' h') (_ : ExcAt X s.heap h' σ' C e) (_ : E C σ') : PX X xs σ s E v s'
noncomputable abbrev EvP := Lc → St → (D → St → Prop) → (Addr → St → Prop) → Prop
noncomputable abbrev EvsP := Lc → St → (List D → St → Prop) → (Addr → St → Prop) → Prop
noncomputable abbrev BvP := Lc → St → (Bool → St → Prop) → (Addr → St → Prop) → Prop
noncomputable def SndE (nk : Str → Option NK) (n c : Nat) (e : Expr) (P : EvP) : Prop :=
  ∀ (X : Cx) (ℓ : Lc) (σ : St) (s : Shared) (Q : D → St → Prop) (E : Addr → St → Prop), Fm nk n c X → Dy X ℓ σ s.heap → P ℓ σ Q E →
    wpAny (model prg X.w) X.A (eval e X.env) (PE X ℓ σ s Q) (PX X [] σ s E) s
inductive PEs (X : Cx) (ℓ : Lc) (σ : St) (s : Shared) (Q : List D → St → Prop) (vs : List Value) (s' : Shared) : Prop
  | in_ (ds : List D) (σ' : St) (h' : Heap) (tk' : Nat) (_ : s' = { s with heap := h', toks := tk' }) (_ : VRs h' vs ds) (_ : Dy X ℓ σ' h') (_ : Kp X.fr [] σ s.heap σ' h') (_ : Q ds σ') : PEs X ℓ σ s Q vs s'
inductive PB (X : Cx) (ℓ : Lc) (σ : St) (s : Shared) (Q : Bool → St → Prop) (b : Bool) (s' : Shared) : Prop
  | in_ (σ' : St) (h' : Heap) (tk' : Nat) (_ : s' = { s with heap := h', toks := tk' }) (_ : Dy X ℓ σ' h') (_ : Kp X.fr [] σ s.heap σ' h') (_ : Q b σ') : PB X ℓ σ s Q b s'
noncomputable def SndB (nk : Str → Option NK) (n c : Nat) (e : Expr) (P : BvP) : Prop :=
  ∀ (X : Cx) (ℓ : Lc) (σ : St) (s : Shared) (Q : Bool → St → Prop) (E : Addr → St → Prop), Fm nk n c X → Dy X ℓ σ s.heap → P ℓ σ Q E →
    wpAny (model prg X.w) X.A (isTrue e X.env (eval e X.env)) (PB X ℓ σ s Q) (PX X [] σ s E) s
noncomputable def SndEs (nk : Str → Option NK) (n c : Nat) (pos : Pos) (es : List Expr) (P : EvsP) : Prop :=
  ∀ (X : Cx) (ℓ : Lc) (σ : St) (s : Shared) (Q : List D → St → Prop) (E : Addr → St → Prop), Fm nk n c X → Dy X ℓ σ s.heap → P ℓ σ Q E →
    wpAny (model prg X.w) X.A (spliced (backTo pos (starEach es X.env))) (PEs X ℓ σ s Q) (PX X [] σ s E) s
theorem ExcAt.back {X h0 h1 h σ C e σ1 fr xs} (x : ExcAt X h1 h σ C e) {σ0 : St} (kp : Kp fr xs σ0 h0 σ1 h1) : ExcAt X h0 h σ C e := by
  obtain ⟨oe, vs, a1, a2, a3, a4, a5, a6, a7⟩ := x
  refine ⟨oe, vs, a1, a2, a3, a4, kp.back a5, a6, ?_⟩
  rcases a7 with a7 | ⟨T, oT, ts, b1, b2, b3, b4, b5, b6, b7⟩
  · exact .inl a7
  · exact .inr ⟨T, oT, ts, b1, b2, b3, b4, b5, kp.back b6, b7⟩
theorem PX.lift {X xs σ s E σ1 h1 tk1 v s'} (kp : Kp X.fr xs σ s.heap σ1 h1) (p : PX X xs σ1 { s with heap := h1, toks := tk1 } E v s') : PX X xs σ s E v s' := by
  obtain ⟨C, e, ℓ', σ', h', tk', rfl, rfl, dy', kp', ex, q⟩ := p
  exact ⟨C, e, ℓ', σ', h', tk', rfl, rfl, dy', kp.trans kp', ex.back kp, q⟩
theorem PX.more {X xs xs' σ s E v s'} (p : PX X xs σ s E v s') (h : ∀ a ∈ xs, a ∈ xs') : PX X xs' σ s E v s' := by
  obtain ⟨C, e, ℓ', σ', h', tk', rfl, rfl, dy', kp', ex, q⟩ := p
  exact ⟨C, e, ℓ', σ', h', tk', rfl, rfl, dy', kp'.more h, ex, q⟩
section
variable {nk : Str → Option NK} {n c : Nat} {X : Cx} {ℓ : Lc} {σ σ1 : St} {s : Shared} {h1 : Heap} {tk1 : Nat} {E : Addr → St → Prop} {xs : List Addr}
theorem SndE.run {e P} (H : SndE nk n c e P) (fm : Fm nk n c X) (dy : Dy X ℓ σ1 h1) (kp : Kp X.fr xs σ s.heap σ1 h1) {Q1 : D → St → Prop} {R : Value → Shared → Prop} (hp : P ℓ σ1 Q1 E)
    (k : ∀ v d σ2 h2 tk2, VR h2 v d → Dy X ℓ σ2 h2 → Kp X.fr [] σ1 h1 σ2 h2 → Kp X.fr xs σ s.heap σ2 h2 → TupK h1 h2 → Q1 d σ2 → R v { s with heap := h2, toks := tk2 }) :
    wpAny (model prg X.w) X.A (eval e X.env) R (PX X xs σ s E) { s with heap := h1, toks := tk1 } := by
  refine wpAny_mono (H X ℓ σ1 { s with heap := h1, toks := tk1 } Q1 E fm dy hp) (fun v s' p => ?_) fun v s' p => (p.more fun a q => nomatch q).lift kp
  obtain ⟨d, σ', h', tk', rfl, vr, dy', kp', q⟩ := p
  exact k v d σ' h' tk' vr dy' kp' (kp.trans (kp'.more fun a q => nomatch q)) (Kp.tupK dy kp' fun _ q => nomatch q) q
theorem SndB.run {e P} (H : SndB nk n c e P) (fm : Fm nk n c X) (dy : Dy X ℓ σ1 h1) (kp : Kp X.fr xs σ s.heap σ1 h1) {Q1 : Bool → St → Prop} {R : Bool → Shared → Prop} (hp : P ℓ σ1 Q1 E)
    (k : ∀ b σ2 h2 tk2, Dy X ℓ σ2 h2 → Kp X.fr [] σ1 h1 σ2 h2 → Kp X.fr xs σ s.heap σ2 h2 → TupK h1 h2 → Q1 b σ2 → R b { s with heap := h2, toks := tk2 }) :
    wpAny (model prg X.w) X.A (isTrue e X.env (eval e X.env)) R (PX X xs σ s E) { s with heap := h1, toks := tk1 } := by
  refine wpAny_mono (H X ℓ σ1 { s with heap := h1, toks := tk1 } Q1 E fm dy hp) (fun v s' p => ?_) fun v s' p => (p.more fun a q => nomatch q).lift kp
  obtain ⟨σ', h', tk', rfl, dy', kp', q⟩ := p
  exact k v σ' h' tk' dy' kp' (kp.trans (kp'.more fun a q => nomatch q)) (Kp.tupK dy kp' fun _ q => nomatch q) q
theorem SndEs.run {pos es P} (H : SndEs nk n c pos es P) (fm : Fm nk n c X) (dy : Dy X ℓ σ1 h1) (kp : Kp X.fr xs σ s.heap σ1 h1) {Q1 : List D → St → Prop} {R : List Value → Shared → Prop} (hp : P ℓ σ1 Q1 E)
    (k : ∀ v d σ2 h2 tk2, VRs h2 v d → Dy X ℓ σ2 h2 → Kp X.fr [] σ1 h1 σ2 h2 → Kp X.fr xs σ s.heap σ2 h2 → TupK h1 h2 → Q1 d σ2 → R v { s with heap := h2, toks := tk2 }) :
    wpAny (model prg X.w) X.A (spliced (backTo pos (starEach es X.env))) R (PX X xs σ s E) { s with heap := h1, toks := tk1 } := by
  refine wpAny_mono (H X ℓ σ1 { s with heap := h1, toks := tk1 } Q1 E fm dy hp) (fun v s' p => ?_) fun v s' p => (p.more fun a q => nomatch q).lift kp
  obtain ⟨d, σ', h', tk', rfl, vr, dy', kp', q⟩ := p
  exact k v d σ' h' tk' vr dy' kp' (kp.trans (kp'.more fun a q => nomatch q)) (Kp.tupK dy kp' fun _ q => nomatch q) q
theorem PE.mk {Q : D → St → Prop} {v d h' tk'} (vr : VR h' v d) (dy : Dy X ℓ σ1 h') (kp : Kp X.fr [] σ s.heap σ1 h') (q : Q d σ1) : PE X ℓ σ s Q v { s with heap := h', toks := tk' } := ⟨d, σ1, h', tk', rfl, vr, dy, kp, q⟩
theorem PB.mk {Q : Bool → St → Prop} {b h' tk'} (dy : Dy X ℓ σ1 h') (kp : Kp X.fr [] σ s.heap σ1 h') (q : Q b σ1) : PB X ℓ σ s Q b { s with heap := h', toks := tk' } := ⟨σ1, h', tk', rfl, dy, kp, q⟩
end
noncomputable def pInt (i : Int) : EvP := fun _ σ Q _ => Q (.int i) σ
noncomputable def pStr (x : Str) : EvP := fun _ σ Q _ => Q (.str x) σ
noncomputable def pNone : EvP := fun _ σ Q _ => Q .none σ
noncomputable def pBool (b : Bool) : EvP := fun _ σ Q _ => Q (.bool b) σ
noncomputable def pBytes (b : Array UInt8) : EvP := fun _ σ Q _ => Q (.bytes b) σ
@[irreducible] def pLoc (x : Str) : EvP := fun ℓ σ Q _ => match ℓ.loc x with | some d => Q d σ | none => False
@[irreducible] def pCel (x : Str) : EvP := fun ℓ σ Q _ => match ℓ.cel.lookup x with
  | some a => (match σ a with | some (.cell (some d)) => Q d σ | _ => False)
  | none => False
section
variable {nk : Str → Option NK} {n c : Nat}
theorem SndE.int {i k pos} : SndE nk n c (.Constant (.int i) k pos) (pInt i) := fun X ℓ σ s Q E fm dy hp =>
  wpAny_Constant_int (PE.mk (.int _ _) dy .refl hp)
theorem SndE.str {x k pos} : SndE nk n c (.Constant (.str x) k pos) (pStr x) := fun X ℓ σ s Q E fm dy hp =>
  wpAny_Constant_str (PE.mk (.str _ _) dy .refl hp)
theorem SndE.none {k pos} : SndE nk n c (.Constant .none k pos) pNone := fun X ℓ σ s Q E fm dy hp =>
  wpAny_Constant_none (PE.mk (tk' := s.toks) .none dy .refl hp)
theorem SndE.bool {b k pos} : SndE nk n c (.Constant (.bool b) k pos) (pBool b) := fun X ℓ σ s Q E fm dy hp =>
  wpAny_Constant_bool (PE.mk (tk' := s.toks) (.bool b) dy .refl hp)
theorem SndE.loc {x pos} (hx : nk x = some .loc) (hd : (x == ("__debug__" : Str)) = false) : SndE nk n c (.Name x pos) (pLoc x) := fun X ℓ σ s Q E fm dy hp => by
  unfold pLoc at hp
  cases q : ℓ.loc x with
  | none => rw [q] at hp; exact hp.elim
  | some d =>
    rw [q] at hp
    obtain ⟨m, hn, hm⟩ := dy.own
    obtain ⟨v, hv, vr⟩ := hm x d q
    exact wpAny_Name (wpAny_loadName_local fm.kind (fm.names x _ hx) hn hv (PE.mk (tk' := s.toks) vr dy .refl hp)) hd
theorem SndE.cel {x pos} (hx : nk x = some .cel ∨ nk x = some .fre) (hd : (x == ("__debug__" : Str)) = false) (hd' : (x == ("__classdict__" : Str)) = false) : SndE nk n c (.Name x pos) (pCel x) := fun X ℓ σ s Q E fm dy hp => by
  unfold pCel at hp
  cases q : ℓ.cel.lookup x with
  | none => rw [q] at hp; exact hp.elim
  | some a =>
    rw [q] at hp
    dsimp only at hp
    cases hd2 : σ a with
    | none => rw [hd2] at hp; exact hp.elim
    | some o =>
    rw [hd2] at hp
    cases o with
    | cell d => cases d with
      | none => exact hp.elim
      | some d =>
      obtain ⟨v, hc, vr⟩ := dy.rep a _ hd2
      have hl : X.env.cells.lookup x = some a := by rw [dy.cel]; exact q
      have hk' : X.env.kindOf x = some .cell ∨ X.env.kindOf x = some .free := hx.elim (fun q => .inl (fm.names x _ q)) fun q => fm.names x _ q
      rcases hk' with hk | hk
      · exact wpAny_Name (wpAny_loadName_cell fm.kind hk hl hc (PE.mk (tk' := s.toks) vr dy .refl hp)) hd
      · exact wpAny_Name (wpAny_loadName_free fm.kind hk hl hc (PE.mk (tk' := s.toks) vr dy .refl hp) hd') hd
    | _ => exact hp.elim
end
end Mine
end F_Abs3
section F_Abs4
open PySem PySem.W PySem.Spec PySem.Calls PyProof.Rows
namespace Mine
mutual
inductive Tl (σ : St) : D → PyData → Prop
  | none : Tl σ .none .none
  | int (i) : Tl σ (.int i) (.int i)
  | str (x) : Tl σ (.str x) (.str x)
  | tup {xs ps} : Tls σ xs ps → Tl σ (.tup xs) (.tuple ps)
  | list {a xs ps} : σ a = some (.list xs) → Tls σ xs ps → Tl σ (.ref a) (.list ps)
inductive Tls (σ : St) : List D → List PyData → Prop
  | nil : Tls σ [] []
  | cons {x p xs ps} : Tl σ x p → Tls σ xs ps → Tls σ (x :: xs) (p :: ps)
end
theorem rd_of {w : World} {h : Heap} {σ : St} (rep : ∀ a o, σ a = some o → ORep w h a o) {d p v} (t : Tl σ d p) (x : VR h v d) : Rd h v p :=
  Tl.rec (motive_1 := fun d p _ => ∀ v, VR h v d → Rd h v p) (motive_2 := fun ds ps _ => ∀ vs, VRs h vs ds → Rds h vs ps)
    (fun v x => by rw [x.none_inv]; exact .none) (fun i v x => x.int_inv.elim fun t e => e ▸ .int) (fun i v x => x.str_inv.elim fun t e => e ▸ .str)
    (fun _ ih v x => by obtain ⟨a, o, vs, n, rfl, h1, h2, h3, h4⟩ := x.tup_inv; exact .tup' h1 h2 h3 (ih _ h4))
    (fun ha _ ih v x => by rw [x.ref_inv]; obtain ⟨o, vs, n, h1, h2, h3, h4⟩ := rep _ _ ha; exact (ih _ h4).elim fun as r => ⟨_, .list h1 h2 h3 r⟩)
    (fun vs x => by rw [x.nil_inv]; exact .nil) (fun _ _ i1 i2 vs x => by obtain ⟨v, r, rfl, a, b⟩ := x.cons_inv; exact .cons (i1 _ a) (i2 _ b)) t v x
noncomputable def kyD (k : Ky) : D := .tup [.tup (k.sum.map .int), .int k.l, .int k.p, .int k.c]
theorem tls_ints {σ : St} : ∀ ns : List Int, Tls σ (ns.map .int) (ns.map .int)
  | [] => .nil
  | n :: ns => .cons (.int n) (tls_ints ns)
theorem tl_ky {σ : St} (k : Ky) : Tl σ (kyD k) (kyP k) := .tup (.cons (.tup (tls_ints _)) (.cons (.int _) (.cons (.int _) (.cons (.int _) .nil))))
theorem vr_ky (w : World) {h : Heap} {v : Value} {k : Ky} (x : VR h v (kyD k)) : ∃ a, v = .ref a ∧ isKy h k a := by
  have r := rd_of (w := w) (h := h) (σ := fun _ => none) (fun _ _ e => by cases e) (tl_ky k) x
  obtain ⟨a, _, _, _, rfl, _⟩ := VR.tup_inv x
  exact ⟨a, rfl, r⟩
noncomputable def sInt (a b : D) (k : Int → Int → Prop) (g : Prop) : Prop := match a with
  | .int x => (match b with
    | .int y => k x y
    | _ => g)
  | _ => g
noncomputable def sBool (a b : D) (k : Bool → Bool → Prop) (g : Prop) : Prop := match a with
  | .bool x => (match b with
    | .bool y => k x y
    | _ => g)
  | _ => g
noncomputable def sStr (a b : D) (k : Str → Str → Prop) (g : Prop) : Prop := match a with
  | .str x => (match b with
    | .str y => k x y
    | _ => g)
  | _ => g
noncomputable def sBytes (a b : D) (k : Array UInt8 → Array UInt8 → Prop) (g : Prop) : Prop := match a with
  | .bytes x => (match b with
    | .bytes y => k x y
    | _ => g)
  | _ => g
noncomputable def sTup (a b : D) (k : List D → List D → Prop) (g : Prop) : Prop := match a with
  | .tup x => (match b with
    | .tup y => k x y
    | _ => g)
  | _ => g
noncomputable def sRef (a b : D) (k : Addr → Addr → Prop) (g : Prop) : Prop := match a with
  | .ref x => (match b with
    | .ref y => k x y
    | _ => g)
  | _ => g
section
variable {h : Heap} {va vb : Value} {a b : D} {g : Prop} {C : Value → Value → Prop}
theorem sInt.el {k} (hp : sInt a b k g) (ra : VR h va a) (rb : VR h vb b) (hk : ∀ x y t u, k x y → C (.int x t) (.int y u)) (hg : g → C va vb) : C va vb := by
  cases a with
  | int x => cases b with
    | int y => obtain ⟨t, rfl⟩ := ra.int_inv; obtain ⟨u, rfl⟩ := rb.int_inv; exact hk _ _ _ _ hp
    | _ => exact hg hp
  | _ => exact hg hp
theorem sBool.el {k} (hp : sBool a b k g) (ra : VR h va a) (rb : VR h vb b) (hk : ∀ x y, k x y → C (.bool x) (.bool y)) (hg : g → C va vb) : C va vb := by
  cases a with
  | bool x => cases b with
    | bool y => cases ra.bool_inv; cases rb.bool_inv; exact hk _ _ hp
    | _ => exact hg hp
  | _ => exact hg hp
theorem sStr.el {k} (hp : sStr a b k g) (ra : VR h va a) (rb : VR h vb b) (hk : ∀ x y t u, k x y → C (.str x t) (.str y u)) (hg : g → C va vb) : C va vb := by
  cases a with
  | str x => cases b with
    | str y => obtain ⟨t, rfl⟩ := ra.str_inv; obtain ⟨u, rfl⟩ := rb.str_inv; exact hk _ _ _ _ hp
    | _ => exact hg hp
  | _ => exact hg hp
theorem sBytes.el {k} (hp : sBytes a b k g) (ra : VR h va a) (rb : VR h vb b) (hk : ∀ x y t u, k x y → C (.bytes x t) (.bytes y u)) (hg : g → C va vb) : C va vb := by
  cases a with
  | bytes x => cases b with
    | bytes y => obtain ⟨t, rfl⟩ := ra.bytes_inv; obtain ⟨u, rfl⟩ := rb.bytes_inv; exact hk _ _ _ _ hp
    | _ => exact hg hp
  | _ => exact hg hp
theorem sTup.el {k} {C : D → D → Prop} (hp : sTup a b k g) (hk : ∀ x y, k x y → C (.tup x) (.tup y)) (hg : g → C a b) : C a b := by
  cases a with
  | tup x => cases b with
    | tup y => exact hk _ _ hp
    | _ => exact hg hp
  | _ => exact hg hp
theorem sRef.el {k} {C : D → D → Prop} (hp : sRef a b k g) (hk : ∀ x y, k x y → C (.ref x) (.ref y)) (hg : g → C a b) : C a b := by
  cases a with
  | ref x => cases b with
    | ref y => exact hk _ _ hp
    | _ => exact hg hp
  | _ => exact hg hp
end
noncomputable def opBin (op : Operator) (a b : D) (σ : St) (Q : D → St → Prop) : Prop :=
  match op with
  | .Add => sInt a b (fun x y => Q (.int (x + y)) σ) (sTup a b (fun x y => x.length + y.length ≤ 100000 ∧ Q (.tup (x ++ y)) σ) (sBytes a b (fun x y => x.size + y.size ≤ 100000 ∧ Q (.bytes (x ++ y)) σ)
      (sRef a b (fun x y => ∃ xs ys, σ x = some (.list xs) ∧ σ y = some (.list ys) ∧ xs.length + ys.length ≤ 100000 ∧ ∀ c, σ c = none → Q (.ref c) (σ.put c (.list (xs ++ ys)))) False)))
  | .Sub => sInt a b (fun x y => Q (.int (x - y)) σ) False
  | .Mult => sInt a b (fun x y => IntMulOk x y ∧ Q (.int (x * y)) σ) False
  | .FloorDiv => sInt a b (fun x y => (y ≠ 0 ∧ y.natAbs < 1073741824) ∧ Q (.int (x.fdiv y)) σ) False
  | .Mod => sInt a b (fun x y => y ≠ 0 ∧ Q (.int (x.fmod y)) σ) False
  | .Pow => sInt a b (fun x y => (0 ≤ y ∧ (Builtin.Int.intBits x : Int) * y ≤ 2 ^ 27) ∧ Q (.int (x ^ y.toNat)) σ) False
  | .LShift => sInt a b (fun x y => (0 ≤ y ∧ y ≤ 1000000 ∧ x.natAbs < 2 ^ 64) ∧ Q (.int (x * 2 ^ y.toNat)) σ) False
  | .RShift => sInt a b (fun x y => 0 ≤ y ∧ Q (.int (x.fdiv (2 ^ y.toNat))) σ) False
  | .BitAnd => sInt a b (fun x y => Q (.int (Builtin.bitAnd x y)) σ) False
  | _ => False
theorem le_size {n : Nat} (h : n ≤ 100000) : n ≤ sizeLine := by rw [sizeLine_eq]; omega
section
variable {X : Cx} {ℓ : Lc} {σ σ1 : St} {s : Shared} {h1 : Heap} {tk1 : Nat} {Q : D → St → Prop} {E : Value → Shared → Prop} {xs : List Addr}
theorem opBin_ok {op : Operator} {a b : D} {va vb : Value} (dy : Dy X ℓ σ1 h1) (kp : Kp X.fr [] σ s.heap σ1 h1) (ra : VR h1 va a) (rb : VR h1 vb b) (hp : opBin op a b σ1 Q) :
    wpAny (model prg X.w) X.A (binaryOp op va vb) (PE X ℓ σ s Q) E { s with heap := h1, toks := tk1 } := by
  cases op with
  | Add =>
    refine hp.el (C := fun va vb => wpAny (model prg X.w) X.A (binaryOp .Add va vb) (PE X ℓ σ s Q) E { s with heap := h1, toks := tk1 }) ra rb (fun _ _ _ _ hp => ?_) fun hp => ?_
    · exact add_int (PE.mk (.int _ _) dy kp hp)
    revert ra rb
    refine hp.el (C := fun a b => VR h1 va a → VR h1 vb b → wpAny (model prg X.w) X.A (binaryOp .Add va vb) (PE X ℓ σ s Q) E { s with heap := h1, toks := tk1 }) (fun xs ys hp ra rb => ?_) fun hp ra rb => ?_
    · obtain ⟨t, o, vs, n, rfl, g1, g2, g3, g4⟩ := ra.tup_inv
      obtain ⟨u, o', vs', n', rfl, g1', g2', g3', g4'⟩ := rb.tup_inv
      obtain ⟨m, F, N, hm⟩ := dy.frE
      refine add_tuples (s := { s with heap := h1, toks := tk1 }) (vs := vs.toList) (ws := vs'.toList) F N ⟨o, g1, g2, n, by rw [Array.toArray_toList]; exact g3⟩ ⟨o', g1', g2', n', by rw [Array.toArray_toList]; exact g3'⟩ (fun q => ?_) (fun q q' => ?_) (fun q q' h' F' N' => ?_) (le_size (by rw [g4.length, g4'.length]; exact hp.1))
      · rw [q] at g4; cases g4
        exact PE.mk rb dy kp (by simpa using hp.2)
      · rw [q'] at g4'; cases g4'
        exact PE.mk ra dy kp (by simpa using hp.2)
      · obtain ⟨dy', kp', tk'⟩ := dy.growN (new := [_]) hm F' N'
        exact PE.mk (tk' := tk1) (.tup (N' _ (.head _)).1 rfl rfl (by simpa using (g4.keep tk').append (g4'.keep tk'))) dy' (kp.trans kp') hp.2
    refine hp.el (C := fun va vb => wpAny (model prg X.w) X.A (binaryOp .Add va vb) (PE X ℓ σ s Q) E { s with heap := h1, toks := tk1 }) ra rb (fun _ _ _ _ hp => ?_) fun hp => ?_
    · exact KBy.add_bytes (by omega) fun t' k => PE.mk (.bytes _ _) dy kp hp.2
    revert ra rb
    refine hp.el (C := fun a b => VR h1 va a → VR h1 vb b → wpAny (model prg X.w) X.A (binaryOp .Add va vb) (PE X ℓ σ s Q) E { s with heap := h1, toks := tk1 }) (fun x y hp ra rb => ?_) False.elim
    obtain ⟨xs, ys, hx, hy, hl, hq⟩ := hp
    cases ra.ref_inv; cases rb.ref_inv
    obtain ⟨o, vs, n, g1, g2, g3, g4⟩ := dy.rep _ _ hx
    obtain ⟨o', vs', n', g1', g2', g3', g4'⟩ := dy.rep _ _ hy
    obtain ⟨m, F, N, hm⟩ := dy.frE
    refine add_arrays (s := { s with heap := h1, toks := tk1 }) F N ⟨o, g1, g2, n, g3⟩ ⟨o', g1', g2', n', g3'⟩ (fun h' F' N' => ?_) (le_size (by rw [← Array.length_toList, ← Array.length_toList, g4.length, g4'.length]; exact hl))
    obtain ⟨dy', kp', tk'⟩ := dy.growN (new := [_]) hm F' N'
    obtain ⟨dy2, kp2⟩ := dy.addTo (o := .list (xs ++ ys)) dy' kp' dy.newA ⟨_, _, _, (N' _ (.head _)).1, rfl, rfl, by simpa using (g4.keep tk').append (g4'.keep tk')⟩
    exact PE.mk (tk' := tk1) (.ref _) dy2 (kp.trans kp2) (hq _ (dy.fresh dy.newA))
  | Sub =>
    refine hp.el (C := fun va vb => wpAny (model prg X.w) X.A (binaryOp .Sub va vb) (PE X ℓ σ s Q) E { s with heap := h1, toks := tk1 }) ra rb (fun _ _ _ _ hp => ?_) False.elim
    exact sub_int (PE.mk (.int _ _) dy kp hp)
  | Mult =>
    refine hp.el (C := fun va vb => wpAny (model prg X.w) X.A (binaryOp .Mult va vb) (PE X ℓ σ s Q) E { s with heap := h1, toks := tk1 }) ra rb (fun _ _ _ _ hp => ?_) False.elim
    exact mul_int (PE.mk (.int _ _) dy kp hp.2) hp.1
  | FloorDiv =>
    refine hp.el (C := fun va vb => wpAny (model prg X.w) X.A (binaryOp .FloorDiv va vb) (PE X ℓ σ s Q) E { s with heap := h1, toks := tk1 }) ra rb (fun _ _ _ _ hp => ?_) False.elim
    exact floordiv_int hp.1.1 (PE.mk (.int _ _) dy kp hp.2) (.inl (PyProof.noPylong_small hp.1.2))
  | Mod =>
    refine hp.el (C := fun va vb => wpAny (model prg X.w) X.A (binaryOp .Mod va vb) (PE X ℓ σ s Q) E { s with heap := h1, toks := tk1 }) ra rb (fun _ _ _ _ hp => ?_) False.elim
    exact mod_int hp.1 (PE.mk (.int _ _) dy kp hp.2)
  | Pow =>
    refine hp.el (C := fun va vb => wpAny (model prg X.w) X.A (binaryOp .Pow va vb) (PE X ℓ σ s Q) E { s with heap := h1, toks := tk1 }) ra rb (fun _ _ _ _ hp => ?_) False.elim
    exact pow_int hp.1.1 hp.1.2 (PE.mk (.int _ _) dy kp hp.2)
  | LShift =>
    refine hp.el (C := fun va vb => wpAny (model prg X.w) X.A (binaryOp .LShift va vb) (PE X ℓ σ s Q) E { s with heap := h1, toks := tk1 }) ra rb (fun _ _ _ _ hp => ?_) False.elim
    exact lshift_int_small hp.1.1 hp.1.2.1 hp.1.2.2 (PE.mk (.int _ _) dy kp hp.2)
  | RShift =>
    refine hp.el (C := fun va vb => wpAny (model prg X.w) X.A (binaryOp .RShift va vb) (PE X ℓ σ s Q) E { s with heap := h1, toks := tk1 }) ra rb (fun _ _ _ _ hp => ?_) False.elim
    exact rshift_int hp.1 (PE.mk (.int _ _) dy kp hp.2)
  | BitAnd =>
    refine hp.el (C := fun va vb => wpAny (model prg X.w) X.A (binaryOp .BitAnd va vb) (PE X ℓ σ s Q) E { s with heap := h1, toks := tk1 }) ra rb (fun _ _ _ _ hp => ?_) False.elim
    exact and_int (PE.mk (.int _ _) dy kp hp)
  | _ => exact hp.elim
end
noncomputable def pBin (op : Operator) (P1 P2 : EvP) : EvP := fun ℓ σ Q E => P1 ℓ σ (fun a σ1 => P2 ℓ σ1 (fun b σ2 => opBin op a b σ2 Q) E) E
section
variable {nk : Str → Option NK} {n c : Nat}
theorem SndE.bin {l r op pos P1 P2} (H1 : SndE nk n c l P1) (H2 : SndE nk n c r P2) : SndE nk n c (.BinOp l op r pos) (pBin op P1 P2) := fun X ℓ σ s Q E fm dy hp => by
  refine wpAny_BinOp (H1.run (h1 := s.heap) (tk1 := s.toks) fm dy .refl hp fun va a σ1 h1 tk1 ra dy1 _ kp1 t1 hp1 => ?_)
  refine H2.run fm dy1 kp1 hp1 fun vb b σ2 h2 tk2 rb dy2 _ kp2 t2 hp2 => ?_
  exact opBin_ok dy2 kp2 (ra.keep t2) rb hp2
end
end Mine
end F_Abs4
section F_Abs5
open PySem PySem.W PySem.Spec PySem.Calls PyProof.Rows
namespace Mine
noncomputable def oBS (a b : D) (k g : Prop) : Prop := match a with
  | .bool _ => (match b with
    | .str _ => k
    | _ => g)
  | _ => g
noncomputable def oIs (a b : D) (Q : Bool → Prop) : Prop := match b with
  | .none => (match a with
    | .none => Q true
    | .bool _ => Q false
    | .str _ => Q false
    | _ => False)
  | .bool y => (match a with
    | .bool x => Q (x == y)
    | .str _ => Q false
    | _ => False)
  | _ => False
noncomputable def oIsNot (a b : D) (Q : Bool → Prop) : Prop := match b with
  | .none => (match a with
    | .none => Q false
    | .tup _ => Q true
    | _ => False)
  | _ => False
noncomputable def oIn (a b : D) (σ : St) (Q : Bool → Prop) : Prop := match b with
  | .ref d => ∃ ky es, a = kyD ky ∧ σ d = some (.dict es) ∧ Q (es.lookup ky).isSome
  | _ => False
theorem vbool_beq (x y : Bool) : (Value.bool x == Value.bool y) = (x == y) := by cases x <;> cases y <;> rfl
theorem oBS.el {h : Heap} {va vb : Value} {a b : D} {k g : Prop} {C : Value → Value → Prop} (hp : oBS a b k g) (ra : VR h va a) (rb : VR h vb b) (hk : ∀ x y u, k → C (.bool x) (.str y u)) (hg : g → C va vb) : C va vb := by
  cases a with
  | bool x => cases b with
    | str y => cases ra.bool_inv; obtain ⟨u, rfl⟩ := rb.str_inv; exact hk _ _ _ hp
    | _ => exact hg hp
  | _ => exact hg hp
noncomputable def opCmp (op : CmpOp) (a b : D) (σ : St) (Q : Bool → Prop) : Prop :=
  match op with
  | .Eq => sInt a b (fun x y => Q (x == y)) (sBool a b (fun x y => Q (x == y)) (sStr a b (fun x y => Q (x == y)) (sBytes a b (fun x y => Q (x.toList == y.toList)) (∃ p q, Tl σ a p ∧ Tl σ b q ∧ Lay 20 p ∧ Lay 20 q ∧ Q (PyData.eqv p q)))))
  | .NotEq => sInt a b (fun x y => Q (x != y)) (sStr a b (fun x y => Q (x != y)) (sBytes a b (fun x y => Q (x.toList != y.toList)) (oBS a b (Q true) (∃ p q, Tl σ a p ∧ Tl σ b q ∧ Lay 20 p ∧ Lay 20 q ∧ Q (!PyData.eqv p q)))))
  | .Lt => sInt a b (fun x y => Q (decide (x < y))) False
  | .LtE => sInt a b (fun x y => Q (decide (x ≤ y))) (sTup a b (fun xs ys => ∃ k k', D.tup xs = kyD k ∧ D.tup ys = kyD k' ∧ Q (kyCmp true k k')) False)
  | .Gt => sInt a b (fun x y => Q (decide (y < x))) False
  | .GtE => sInt a b (fun x y => Q (decide (y ≤ x))) False
  | .Is => oIs a b Q
  | .IsNot => oIsNot a b Q
  | .In => oIn a b σ Q
  | .NotIn => oIn a b σ fun r => Q (!r)
theorem DRows.look {h : Heap} {xs es} (r : DRows h xs es) (k : Ky) : match es.lookup k with
    | none => atKey xs k = none
    | some d => ∃ a v, atKey xs k = some (a, v) ∧ VR h v d := by
  induction r with
  | nil => rfl
  | @cons k' a v e xs es x _ ih =>
    rw [List.lookup_cons]
    by_cases q : k = k'
    · subst q
      rw [beq_self_eq_true]
      exact ⟨a, v, by simp [atKey], x⟩
    · rw [beq_false_of_ne q]
      have : atKey ((k', a, v) :: xs) k = atKey xs k := by simp [atKey, Ne.symm q]
      dsimp only
      rw [this]; exact ih
theorem DRows.isSome {h : Heap} {xs es} (r : DRows h xs es) (k : Ky) : (atKey xs k).isSome = (es.lookup k).isSome := by
  have := r.look k
  cases q : es.lookup k with
  | none => rw [q] at this; rw [this]; rfl
  | some d => rw [q] at this; obtain ⟨a, v, e, _⟩ := this; rw [e]; rfl
theorem DRows.length {h : Heap} {xs es} (r : DRows h xs es) : xs.length = es.length := by
  induction r with
  | nil => rfl
  | cons _ _ ih => simp [ih]
theorem not_sys {a : Addr} (h : sysModules < a) : (a == sysModules) = false := by
  simp only [beq_eq_false_iff_ne, ne_eq]; exact Nat.ne_of_gt h
noncomputable def PC (s : Shared) (h1 : Heap) (Q : Bool → Prop) (v : Value) (s' : Shared) : Prop := ∃ r tk', v = .bool r ∧ s' = { s with heap := h1, toks := tk' } ∧ Q r
section
variable {X : Cx} {ℓ : Lc} {σ σ1 : St} {s : Shared} {h1 : Heap} {tk1 : Nat} {Q : Bool → Prop} {E : Value → Shared → Prop}
theorem PC.mk {r tk'} (q : Q r) : PC s h1 Q (.bool r) { s with heap := h1, toks := tk' } := ⟨r, tk', rfl, rfl, q⟩
theorem opCmp_ok {op : CmpOp} {a b : D} {va vb : Value} (dy : Dy X ℓ σ1 h1) (hu : X.A.units + 60 < cLine) (ra : VR h1 va a) (rb : VR h1 vb b) (hp : opCmp op a b σ1 Q) :
    wpAny (model prg X.w) X.A (compareOp op va vb) (PC s h1 Q) E { s with heap := h1, toks := tk1 } := by
  cases op with
  | Eq =>
    refine hp.el (C := fun va vb => wpAny (model prg X.w) X.A (compareOp .Eq va vb) (PC s h1 Q) E { s with heap := h1, toks := tk1 }) ra rb (fun _ _ _ _ hp => ?_) fun hp => ?_
    · exact eq_int (PC.mk (tk' := tk1) hp)
    refine hp.el (C := fun va vb => wpAny (model prg X.w) X.A (compareOp .Eq va vb) (PC s h1 Q) E { s with heap := h1, toks := tk1 }) ra rb (fun _ _ hp => ?_) fun hp => ?_
    · exact PySem.SeqAt.compareEq_reads (s := { s with heap := h1, toks := tk1 }) (.bool _) (.bool _) rfl rfl (by show _ + _ < _; simp only [PyData.depth]; lia) (PC.mk (tk' := tk1) hp)
    refine hp.el (C := fun va vb => wpAny (model prg X.w) X.A (compareOp .Eq va vb) (PC s h1 Q) E { s with heap := h1, toks := tk1 }) ra rb (fun _ _ _ _ hp => ?_) fun hp => ?_
    · exact eq_str (PC.mk (tk' := tk1) hp)
    refine hp.el (C := fun va vb => wpAny (model prg X.w) X.A (compareOp .Eq va vb) (PC s h1 Q) E { s with heap := h1, toks := tk1 }) ra rb (fun _ _ _ _ hp => ?_) fun hp => ?_
    · exact eq_bytes (PC.mk (tk' := tk1) hp)
    obtain ⟨p, q, t1, t2, l1, l2, hq⟩ := hp
    exact eq_D (rd_of dy.rep t1 ra) (rd_of dy.rep t2 rb) l1 l2 (by omega) rfl (PC.mk (tk' := tk1) hq)
  | NotEq =>
    refine hp.el (C := fun va vb => wpAny (model prg X.w) X.A (compareOp .NotEq va vb) (PC s h1 Q) E { s with heap := h1, toks := tk1 }) ra rb (fun _ _ _ _ hp => ?_) fun hp => ?_
    · exact ne_int (PC.mk (tk' := tk1) hp)
    refine hp.el (C := fun va vb => wpAny (model prg X.w) X.A (compareOp .NotEq va vb) (PC s h1 Q) E { s with heap := h1, toks := tk1 }) ra rb (fun _ _ _ _ hp => ?_) fun hp => ?_
    · exact ne_str (PC.mk (tk' := tk1) hp)
    refine hp.el (C := fun va vb => wpAny (model prg X.w) X.A (compareOp .NotEq va vb) (PC s h1 Q) E { s with heap := h1, toks := tk1 }) ra rb (fun _ _ _ _ hp => ?_) fun hp => ?_
    · exact ne_bytes (PC.mk (tk' := tk1) hp)
    refine hp.el (C := fun va vb => wpAny (model prg X.w) X.A (compareOp .NotEq va vb) (PC s h1 Q) E { s with heap := h1, toks := tk1 }) ra rb (fun _ _ _ hp => ?_) fun hp => ?_
    · exact EqMixed.ne_bool_str (PC.mk (tk' := tk1) hp)
    obtain ⟨p, q, t1, t2, l1, l2, hq⟩ := hp
    exact ne_D (rd_of dy.rep t1 ra) (rd_of dy.rep t2 rb) l1 l2 (by omega) rfl (PC.mk (tk' := tk1) hq)
  | Lt =>
    refine hp.el (C := fun va vb => wpAny (model prg X.w) X.A (compareOp .Lt va vb) (PC s h1 Q) E { s with heap := h1, toks := tk1 }) ra rb (fun _ _ _ _ hp => ?_) False.elim
    exact lt_int (PC.mk (tk' := tk1) hp)
  | LtE =>
    refine hp.el (C := fun va vb => wpAny (model prg X.w) X.A (compareOp .LtE va vb) (PC s h1 Q) E { s with heap := h1, toks := tk1 }) ra rb (fun _ _ _ _ hp => ?_) fun hp => ?_
    · exact le_int (PC.mk (tk' := tk1) hp)
    revert ra rb
    refine hp.el (C := fun a b => VR h1 va a → VR h1 vb b → wpAny (model prg X.w) X.A (compareOp .LtE va vb) (PC s h1 Q) E { s with heap := h1, toks := tk1 }) (fun x y hp ra rb => ?_) False.elim
    obtain ⟨k, k', e1, e2, hq⟩ := hp
    rw [e1] at ra; rw [e2] at rb
    obtain ⟨ak, rfl, hk⟩ := vr_ky X.w ra
    obtain ⟨ak', rfl, hk'⟩ := vr_ky X.w rb
    exact le_ky (by omega) hk hk' rfl (PC.mk (tk' := tk1) hq)
  | Gt =>
    refine hp.el (C := fun va vb => wpAny (model prg X.w) X.A (compareOp .Gt va vb) (PC s h1 Q) E { s with heap := h1, toks := tk1 }) ra rb (fun _ _ _ _ hp => ?_) False.elim
    exact gt_int (PC.mk (tk' := tk1) hp)
  | GtE =>
    refine hp.el (C := fun va vb => wpAny (model prg X.w) X.A (compareOp .GtE va vb) (PC s h1 Q) E { s with heap := h1, toks := tk1 }) ra rb (fun _ _ _ _ hp => ?_) False.elim
    exact ge_int (PC.mk (tk' := tk1) hp)
  | Is =>
    cases b with
    | none =>
      cases rb.none_inv
      cases a with
      | none => cases ra.none_inv; exact wpAny_is_plain rfl (PC.mk (tk' := tk1) hp)
      | bool x => cases ra.bool_inv; exact wpAny_is_plain rfl (PC.mk (tk' := tk1) hp)
      | str x => obtain ⟨t, rfl⟩ := ra.str_inv; exact wpAny_is_plain rfl (PC.mk (tk' := tk1) hp)
      | _ => exact hp.elim
    | bool y =>
      cases rb.bool_inv
      cases a with
      | bool x => cases ra.bool_inv; exact wpAny_is_plain rfl (PC.mk (tk' := tk1) ((congrArg Q (vbool_beq _ _)).mpr hp))
      | str x => obtain ⟨t, rfl⟩ := ra.str_inv; exact wpAny_is_plain rfl (PC.mk (tk' := tk1) hp)
      | _ => exact hp.elim
    | _ => exact hp.elim
  | IsNot =>
    cases b with
    | none =>
      cases rb.none_inv
      cases a with
      | none => cases ra.none_inv; exact wpAny_isNot_plain rfl (PC.mk (tk' := tk1) hp)
      | tup x => obtain ⟨a, _, _, _, rfl, _⟩ := ra.tup_inv; exact wpAny_isNot_plain rfl (PC.mk (tk' := tk1) hp)
      | _ => exact hp.elim
    | _ => exact hp.elim
  | In =>
    cases b with
    | ref d =>
      obtain ⟨ky, es, rfl, hd, hq⟩ := hp
      cases rb.ref_inv
      obtain ⟨ak, rfl, hk⟩ := vr_ky X.w ra
      obtain ⟨xs, hx, rx⟩ := dy.rep _ _ hd
      exact dict_in (s := { s with heap := h1, toks := tk1 }) (by omega) hk hx (not_sys (dy.low _ (by rw [hd]; simp)).2) (PC.mk ((congrArg Q (rx.isSome ky)).mpr hq))
    | _ => exact hp.elim
  | NotIn =>
    cases b with
    | ref d =>
      obtain ⟨ky, es, rfl, hd, hq⟩ := hp
      cases rb.ref_inv
      obtain ⟨ak, rfl, hk⟩ := vr_ky X.w ra
      obtain ⟨xs, hx, rx⟩ := dy.rep _ _ hd
      exact notIn_of_in (dict_in (s := { s with heap := h1, toks := tk1 }) (by omega) hk hx (not_sys (dy.low _ (by rw [hd]; simp)).2) fun b e => by
        cases e; exact PC.mk ((congrArg (fun b => Q (!b)) (rx.isSome ky)).mpr hq))
    | _ => exact hp.elim
end
end Mine
end F_Abs5
section F_Abs6
open PySem PySem.W PySem.Spec PySem.Calls PyProof.Rows
namespace Mine
theorem Fm.u60 {nk n c X} (fm : Fm nk n c X) : X.A.units + 60 < cLine := by have := fm.units; lia
noncomputable def pCmp (op : CmpOp) (P1 P2 : EvP) : EvP := fun ℓ σ Q E => P1 ℓ σ (fun a σ1 => P2 ℓ σ1 (fun b σ2 => opCmp op a b σ2 fun r => Q (.bool r) σ2) E) E
noncomputable def bCmp (op : CmpOp) (P1 P2 : EvP) : BvP := fun ℓ σ Q E => P1 ℓ σ (fun a σ1 => P2 ℓ σ1 (fun b σ2 => opCmp op a b σ2 fun r => Q r σ2) E) E
noncomputable def bChain (op op' : CmpOp) (P1 P2 P3 : EvP) : BvP := fun ℓ σ Q E => P1 ℓ σ (fun a σ1 => P2 ℓ σ1 (fun b σ2 => opCmp op a b σ2 fun r => if r then P3 ℓ σ2 (fun d σ3 => opCmp op' b d σ3 fun r' => Q r' σ3) E else Q false σ2) E) E
noncomputable def bNot (P : BvP) : BvP := fun ℓ σ Q E => P ℓ σ (fun b σ' => Q (!b) σ') E
noncomputable def bAnd (P1 P2 : BvP) : BvP := fun ℓ σ Q E => P1 ℓ σ (fun b σ1 => if b then P2 ℓ σ1 Q E else Q false σ1) E
noncomputable def bOr (P1 P2 : BvP) : BvP := fun ℓ σ Q E => P1 ℓ σ (fun b σ1 => if b then Q true σ1 else P2 ℓ σ1 Q E) E
noncomputable def bVal (P : EvP) : BvP := fun ℓ σ Q E => P ℓ σ (fun d σ' => match d with | .bool b => Q b σ' | _ => False) E
noncomputable def pIf (B : BvP) (P1 P2 : EvP) : EvP := fun ℓ σ Q E => B ℓ σ (fun b σ1 => if b then P1 ℓ σ1 Q E else P2 ℓ σ1 Q E) E
noncomputable def pNil : EvsP := fun _ σ Q _ => Q [] σ
noncomputable def pCons (P : EvP) (Ps : EvsP) : EvsP := fun ℓ σ Q E => P ℓ σ (fun d σ1 => Ps ℓ σ1 (fun ds σ2 => Q (d :: ds) σ2) E) E
noncomputable def pTup (Ps : EvsP) : EvP := fun ℓ σ Q E => Ps ℓ σ (fun ds σ' => ds.length ≤ 1000 ∧ Q (.tup ds) σ') E
noncomputable def pList (Ps : EvsP) : EvP := fun ℓ σ Q E => Ps ℓ σ (fun ds σ' => ds.length ≤ 1000 ∧ ∀ a, σ' a = none → Q (.ref a) (σ'.put a (.list ds))) E
section
variable {nk : Str → Option NK} {n c : Nat}
theorem SndE.cmp {l r op pos P1 P2} (H1 : SndE nk n c l P1) (H2 : SndE nk n c r P2) (hm : behindInMarks op r = false) : SndE nk n c (.Compare l [op] [r] pos) (pCmp op P1 P2) := fun X ℓ σ s Q E fm dy hp => by
  refine wpAny_Compare1 (H1.run (h1 := s.heap) (tk1 := s.toks) fm dy .refl hp fun va a σ1 h1 tk1 ra dy1 _ kp1 t1 hp1 => ?_) hm
  refine H2.run fm dy1 kp1 hp1 fun vb b σ2 h2 tk2 rb dy2 _ kp2 t2 hp2 => ?_
  refine wpAny_mono (opCmp_ok (s := s) dy2 fm.u60 (ra.keep t2) rb hp2) ?_ fun _ _ e => e
  rintro v s' ⟨r, tk', rfl, rfl, q⟩
  exact PE.mk (.bool _) dy2 kp2 q
theorem SndB.cmp {l r op pos P1 P2} (H1 : SndE nk n c l P1) (H2 : SndE nk n c r P2) (hm : behindInMarks op r = false) : SndB nk n c (.Compare l [op] [r] pos) (bCmp op P1 P2) := fun X ℓ σ s Q E fm dy hp => by
  refine wpAny_isTrue_Compare1 (H1.run (h1 := s.heap) (tk1 := s.toks) fm dy .refl hp fun va a σ1 h1 tk1 ra dy1 _ kp1 t1 hp1 => ?_) hm
  refine H2.run fm dy1 kp1 hp1 fun vb b σ2 h2 tk2 rb dy2 _ kp2 t2 hp2 => ?_
  refine wpAny_mono (opCmp_ok (s := s) dy2 fm.u60 (ra.keep t2) rb hp2) ?_ fun _ _ e => e
  rintro v s' ⟨r, tk', rfl, rfl, q⟩
  exact wpAny_truthy_bool (PB.mk dy2 kp2 q)
theorem SndB.chain {l r r' op op' pos P1 P2 P3} (H1 : SndE nk n c l P1) (H2 : SndE nk n c r P2) (H3 : SndE nk n c r' P3) (hm : lastMarks [op, op'] [r, r'] = false) : SndB nk n c (.Compare l [op, op'] [r, r'] pos) (bChain op op' P1 P2 P3) := fun X ℓ σ s Q E fm dy hp => by
  refine isTrue_chain (H1.run (h1 := s.heap) (tk1 := s.toks) fm dy .refl hp fun va a σ1 h1 tk1 ra dy1 _ kp1 t1 hp1 => ?_) hm
  refine test_link (H2.run fm dy1 kp1 hp1 fun vb b σ2 h2 tk2 rb dy2 _ kp2 t2 hp2 => ?_)
  refine wpAny_mono (opCmp_ok (s := s) dy2 fm.u60 (ra.keep t2) rb hp2) ?_ fun _ _ e => e
  rintro v s' ⟨t, tk', rfl, rfl, q⟩
  refine wpAny_truthy_bool ?_
  cases t with
  | false => exact PB.mk dy2 kp2 q
  | true =>
    refine test_last (H3.run fm dy2 kp2 q fun vd d σ3 h3 tk3 rd dy3 _ kp3 t3 hp3 => ?_)
    refine wpAny_mono (opCmp_ok (s := s) dy3 fm.u60 (rb.keep t3) rd hp3) ?_ fun _ _ e => e
    rintro v s' ⟨t, tk', rfl, rfl, q⟩
    exact wpAny_truthy_bool (PB.mk dy3 kp3 q)
theorem SndB.not_ {e pos P} (H : SndB nk n c e P) : SndB nk n c (.UnaryOp .Not e pos) (bNot P) := fun X ℓ σ s Q E fm dy hp => by
  refine wpAny_isTrue_Not (H.run (h1 := s.heap) (tk1 := s.toks) fm dy .refl hp fun b σ1 h1 tk1 dy1 _ kp1 t1 hp1 => ?_)
  exact PB.mk dy1 kp1 hp1
theorem SndB.and_ {x y pos P1 P2} (H1 : SndB nk n c x P1) (H2 : SndB nk n c y P2) : SndB nk n c (.BoolOp .And [x, y] pos) (bAnd P1 P2) := fun X ℓ σ s Q E fm dy hp => by
  refine wpAny_isTrue_BoolOp (wpAny_allTrue_And_cons (H1.run (h1 := s.heap) (tk1 := s.toks) fm dy .refl hp fun b σ1 h1 tk1 dy1 _ kp1 t1 hp1 => ?_))
  cases b with
  | false => exact PB.mk dy1 kp1 hp1
  | true =>
    refine wpAny_allTrue_And_cons (H2.run fm dy1 kp1 hp1 fun b σ2 h2 tk2 dy2 _ kp2 t2 hp2 => ?_)
    cases b with
    | false => exact PB.mk dy2 kp2 hp2
    | true => exact wpAny_allTrue_And_nil (PB.mk dy2 kp2 hp2)
theorem SndB.or_ {x y pos P1 P2} (H1 : SndB nk n c x P1) (H2 : SndB nk n c y P2) : SndB nk n c (.BoolOp .Or [x, y] pos) (bOr P1 P2) := fun X ℓ σ s Q E fm dy hp => by
  refine wpAny_isTrue_BoolOp (wpAny_allTrue_Or_cons (H1.run (h1 := s.heap) (tk1 := s.toks) fm dy .refl hp fun b σ1 h1 tk1 dy1 _ kp1 t1 hp1 => ?_))
  cases b with
  | true => exact PB.mk dy1 kp1 hp1
  | false =>
    refine wpAny_allTrue_Or_cons (H2.run fm dy1 kp1 hp1 fun b σ2 h2 tk2 dy2 _ kp2 t2 hp2 => ?_)
    cases b with
    | true => exact PB.mk dy2 kp2 hp2
    | false => exact wpAny_allTrue_Or_nil (PB.mk dy2 kp2 hp2)
theorem SndB.or3 {x y z pos P1 P2 P3} (H1 : SndB nk n c x P1) (H2 : SndB nk n c y P2) (H3 : SndB nk n c z P3) : SndB nk n c (.BoolOp .Or [x, y, z] pos) (bOr P1 (bOr P2 P3)) := fun X ℓ σ s Q E fm dy hp => by
  refine wpAny_isTrue_BoolOp (wpAny_allTrue_Or_cons (H1.run (h1 := s.heap) (tk1 := s.toks) fm dy .refl hp fun b σ1 h1 tk1 dy1 _ kp1 t1 hp1 => ?_))
  cases b with
  | true => exact PB.mk dy1 kp1 hp1
  | false =>
    refine wpAny_allTrue_Or_cons (H2.run fm dy1 kp1 hp1 fun b σ2 h2 tk2 dy2 _ kp2 t2 hp2 => ?_)
    cases b with
    | true => exact PB.mk dy2 kp2 hp2
    | false =>
      refine wpAny_allTrue_Or_cons (H3.run fm dy2 kp2 hp2 fun b σ3 h3 tk3 dy3 _ kp3 t3 hp3 => ?_)
      cases b with
      | true => exact PB.mk dy3 kp3 hp3
      | false => exact wpAny_allTrue_Or_nil (PB.mk dy3 kp3 hp3)
theorem SndB.val {e P} (H : SndE nk n c e P) (he : ∀ env whole, isTrue e env whole = (do let v ← whole; standAt e.pos; holding [v] (truthy v))) : SndB nk n c e (bVal P) := fun X ℓ σ s Q E fm dy hp => by
  refine wpAny_isTrue_value (H.run (h1 := s.heap) (tk1 := s.toks) fm dy .refl hp fun v d σ1 h1 tk1 rd dy1 _ kp1 t1 hp1 => ?_) (he _ _)
  cases d with
  | bool b => cases rd.bool_inv; exact wpAny_truthy_bool (PB.mk dy1 kp1 hp1)
  | _ => exact hp1.elim
theorem SndE.ifexp {t b o pos B P1 P2} (H : SndB nk n c t B) (H1 : SndE nk n c b P1) (H2 : SndE nk n c o P2) : SndE nk n c (.IfExp t b o pos) (pIf B P1 P2) := fun X ℓ σ s Q E fm dy hp => by
  refine wpAny_IfExp (H.run (h1 := s.heap) (tk1 := s.toks) fm dy .refl hp fun b σ1 h1 tk1 dy1 _ kp1 t1 hp1 => ?_)
  cases b with
  | true => exact H1.run fm dy1 kp1 hp1 fun v d σ2 h2 tk2 rd dy2 _ kp2 t2 hp2 => PE.mk rd dy2 kp2 hp2
  | false => exact H2.run fm dy1 kp1 hp1 fun v d σ2 h2 tk2 rd dy2 _ kp2 t2 hp2 => PE.mk rd dy2 kp2 hp2
theorem SndEs.nil {pos} : SndEs nk n c pos [] pNil := fun X ℓ σ s Q E fm dy hp => wpAny_items_nil ⟨[], σ, s.heap, s.toks, rfl, .nil, dy, .refl, hp⟩
theorem SndEs.cons {pos e es P Ps} (H : SndE nk n c e P) (Hs : SndEs nk n c pos es Ps) (he : ∀ env, starEach (e :: es) env = (false, eval e env) :: starEach es env) : SndEs nk n c pos (e :: es) (pCons P Ps) := fun X ℓ σ s Q E fm dy hp => by
  refine wpAny_items_cons (H.run (h1 := s.heap) (tk1 := s.toks) fm dy .refl hp fun v d σ1 h1 tk1 rd dy1 _ kp1 t1 hp1 => ?_) (he _)
  refine Hs.run fm dy1 kp1 hp1 fun vs ds σ2 h2 tk2 rds dy2 _ kp2 t2 hp2 => ?_
  exact ⟨d :: ds, σ2, h2, tk2, rfl, .cons (rd.keep t2) rds, dy2, kp2, hp2⟩
theorem SndE.tuple {pos k es Ps} (Hs : SndEs nk n c pos es Ps) : SndE nk n c (.Tuple es k pos) (pTup Ps) := fun X ℓ σ s Q E fm dy hp => by
  refine wpAny_Tuple (Hs.run (h1 := s.heap) (tk1 := s.toks) fm dy .refl hp fun vs ds σ1 h1 tk1 rds dy1 _ kp1 t1 hp1 => ?_)
  refine ⟨le_size (by rw [rds.length]; omega), ?_⟩
  obtain ⟨dy2, kp2, t2⟩ := dy1.push { cls := .type "tuple", data := .seq vs.toArray }
  exact PE.mk (tk' := tk1) (.tup (Heap.get?_push_size _ rfl) rfl rfl (by simpa using rds.keep t2)) dy2 (kp1.trans kp2) hp1.2
theorem SndE.list {pos es Ps} (Hs : SndEs nk n c pos es Ps) : SndE nk n c (.List es pos) (pList Ps) := fun X ℓ σ s Q E fm dy hp => by
  refine wpAny_List (Hs.run (h1 := s.heap) (tk1 := s.toks) fm dy .refl hp fun vs ds σ1 h1 tk1 rds dy1 _ kp1 t1 hp1 => ?_)
  refine ⟨le_size (by rw [rds.length]; omega), ?_⟩
  obtain ⟨dy2, kp2, t2⟩ := dy1.push { cls := .type "list", data := .seq vs.toArray }
  obtain ⟨dy3, kp3⟩ := dy1.addTo (o := .list ds) dy2 kp2 dy1.newA ⟨_, _, _, Heap.get?_push_size _ rfl, rfl, rfl, by simpa using rds.keep t2⟩
  exact PE.mk (tk' := tk1) (.ref _) dy3 (kp1.trans kp3) (hp1.2 _ (dy1.fresh dy1.newA))
end
end Mine
end F_Abs6
section F_Abs7
open PySem PySem.W PySem.Spec PySem.Calls PyProof.Rows
namespace Mine
noncomputable abbrev SP := Lc → St → (Lc → St → Prop) → (D → St → Prop) → (Addr → St → Prop) → Prop
structure Fs (nk : Str → Option NK) (n c : Nat) (X : Cx) : Prop extends Fm nk n c X where
  top : ∃ out, X.frs = X.env :: out
  own : X.env.frame = some X.env.locals
inductive PS (X : Cx) (σ : St) (s : Shared) (N : Lc → St → Prop) (R : D → St → Prop) (f : Flow) (s' : Shared) : Prop
  | n_ (_ : f = .next) (ℓ' : Lc) (σ' : St) (h' : Heap) (tk' : Nat) (_ : s' = { s with heap := h', toks := tk' }) (_ : Dy X ℓ' σ' h') (_ : Kp X.fr [X.env.locals] σ s.heap σ' h') (_ : N ℓ' σ') : PS X σ s N R f s'
  | r_ (v : Value) (d : D) (ℓ' : Lc) (σ' : St) (h' : Heap) (tk' : Nat) (_ : f = .ret v) (_ : s' = { s with heap := h', toks := tk' }) (_ : VR h' v d) (_ : Dy X ℓ' σ' h') (_ : Kp X.fr [X.env.locals] σ s.heap σ' h') (_ : R d σ') : PS X σ s N R f s'
noncomputable def SndS (nk : Str → Option NK) (n c : Nat) (st : Stmt) (P : SP) : Prop :=
  ∀ (X : Cx) (ℓ : Lc) (σ : St) (s : Shared) (N : Lc → St → Prop) (R : D → St → Prop) (E : Addr → St → Prop), Fs nk n c X → Dy X ℓ σ s.heap → P ℓ σ N R E →
    wpAny (model prg X.w) X.A (exec st X.env) (PS X σ s N R) (PX X [X.env.locals] σ s E) s
noncomputable def SndSs (nk : Str → Option NK) (n c : Nat) (st : List Stmt) (P : SP) : Prop :=
  ∀ (X : Cx) (ℓ : Lc) (σ : St) (s : Shared) (N : Lc → St → Prop) (R : D → St → Prop) (E : Addr → St → Prop), Fs nk n c X → Dy X ℓ σ s.heap → P ℓ σ N R E →
    wpAny (model prg X.w) X.A (execs st X.env) (PS X σ s N R) (PX X [X.env.locals] σ s E) s
theorem PS.lift {X σ s N R σ1 h1 tk1 f s'} (kp : Kp X.fr [X.env.locals] σ s.heap σ1 h1) (p : PS X σ1 { s with heap := h1, toks := tk1 } N R f s') : PS X σ s N R f s' := by
  rcases p with ⟨rfl, ℓ', σ', h', tk', rfl, dy', kp', q⟩ | ⟨v, d, ℓ', σ', h', tk', rfl, rfl, vr, dy', kp', q⟩
  · exact .n_ rfl ℓ' σ' h' tk' rfl dy' (kp.trans kp') q
  · exact .r_ v d ℓ' σ' h' tk' rfl rfl vr dy' (kp.trans kp') q
section
variable {nk : Str → Option NK} {n c : Nat} {X : Cx} {ℓ : Lc} {σ σ1 : St} {s : Shared} {h1 : Heap} {tk1 : Nat} {N : Lc → St → Prop} {R : D → St → Prop} {E : Addr → St → Prop}
theorem SndSs.run {st P} (H : SndSs nk n c st P) (fs : Fs nk n c X) (dy : Dy X ℓ σ1 h1) (kp : Kp X.fr [X.env.locals] σ s.heap σ1 h1) (hp : P ℓ σ1 N R E) :
    wpAny (model prg X.w) X.A (execs st X.env) (PS X σ s N R) (PX X [X.env.locals] σ s E) { s with heap := h1, toks := tk1 } :=
  wpAny_mono (H X ℓ σ1 { s with heap := h1, toks := tk1 } N R E fs dy hp) (fun f s' p => p.lift kp) fun v s' p => p.lift kp
theorem PS.next {ℓ' h' tk'} (dy : Dy X ℓ' σ1 h') (kp : Kp X.fr [X.env.locals] σ s.heap σ1 h') (q : N ℓ' σ1) : PS X σ s N R .next { s with heap := h', toks := tk' } := .n_ rfl ℓ' σ1 h' tk' rfl dy kp q
theorem PS.ret {v d ℓ' h' tk'} (vr : VR h' v d) (dy : Dy X ℓ' σ1 h') (kp : Kp X.fr [X.env.locals] σ s.heap σ1 h') (q : R d σ1) : PS X σ s N R (.ret v) { s with heap := h', toks := tk' } := .r_ v d ℓ' σ1 h' tk' rfl rfl vr dy kp q
theorem nilSub {l : List Addr} : ∀ a ∈ ([] : List Addr), a ∈ l := fun _ q => nomatch q
theorem locSub {X : Cx} : ∀ a ∈ [X.env.locals], a ∈ X.fr := fun a q => by rw [List.mem_singleton.mp q]; exact .head _
end
noncomputable def Lc.set (ℓ : Lc) (x : Str) (d : D) : Lc := ⟨fun z => if z = x then some d else ℓ.loc z, ℓ.cel⟩
noncomputable def sSet (k : NK) (x : Str) (d : D) (ℓ : Lc) (σ : St) (N : Lc → St → Prop) : Prop :=
  match k with
  | .loc => N (ℓ.set x d) σ
  | .cel => (match ℓ.cel.lookup x with | some c => (match σ c with | some (.cell _) => N ℓ (σ.put c (.cell (some d))) | _ => False) | none => False)
  | .glb => False
  | .fre => False
  | .cod _ _ => False
noncomputable def sSets : List (NK × Str) → List D → Lc → St → (Lc → St → Prop) → Prop
  | [], [], ℓ, σ, N => N ℓ σ
  | (k, x) :: ks, d :: ds, ℓ, σ, N => sSet k x d ℓ σ fun ℓ' σ' => sSets ks ds ℓ' σ' N
  | _, _, _, _, _ => False
noncomputable def KsOk (nk : Str → Option NK) (ks : List (NK × Str)) : Prop := ∀ p ∈ ks, nk p.2 = some p.1
theorem sameBut_turn {L : Addr} {h h' : Heap} (hs : Heap.SameBut L h h') : ∀ b o, b ≠ L → h.get? b = some o → h'.get? b = some o := fun b o n e => hs.extBut b o n e
theorem Dy.store {X ℓ σ h h' m x v d} (y : Dy X ℓ σ h) (hm : h.Ns X.env.locals m ∧ ∀ z e, ℓ.loc z = some e → ∃ u, m z = some u ∧ VR h u e) (hn : h'.Ns X.env.locals fun z => if z = x then some v else m z) (hs : Heap.SameBut X.env.locals h h') (rd : VR h v d) :
    Dy X (ℓ.set x d) σ h' ∧ Kp X.fr [X.env.locals] σ h σ h' ∧ TupK h h' := by
  have k := sameBut_turn hs
  have kp : Kp X.fr [X.env.locals] σ h σ h' := ⟨fun a o e _ _ q => k a o (fun z => q (z ▸ .head _)) e, fun a m' n _ _ q => n.at' fun o e => k a o (fun z => q (z ▸ .head _)) e, fun a o e => by
    by_cases q : a = X.env.locals
    · subst q; exact ns_some hn
    · exact ⟨o, k a o q e⟩, fun _ n => .inl n, fun _ n => n⟩
  have t : TupK h h' := kp.tupK y locSub
  refine ⟨⟨fun b o e => ?_, y.two, fun env he => ?_, y.off, y.offL, ⟨_, hn, fun z e q => ?_⟩, y.cel, y.low, fun a o e => (y.rep a o e).keep t fun ob e' => k a ob (fun q => by rw [q, y.off _ (.head _)] at e; cases e) e'⟩, kp, t⟩
  · exact k b o (fun q => by rw [q, y.offL] at e; cases e) (y.stays b o e)
  · obtain ⟨hk, L, m', hf, hb, n'⟩ := y.frames env he
    by_cases q : L = X.env.locals
    · subst q; exact ⟨hk, _, _, hf, hb, hn⟩
    · exact ⟨hk, L, m', hf, hb, n'.at' fun o e => k L o q e⟩
  · simp only [Lc.set] at q
    by_cases hz : z = x
    · rw [if_pos hz] at q; cases q
      exact ⟨v, if_pos hz, rd.keep t⟩
    · rw [if_neg hz] at q
      obtain ⟨u, a, b⟩ := hm.2 z e q
      exact ⟨u, by rw [if_neg hz]; exact a, b.keep t⟩
section
variable {nk : Str → Option NK} {n c : Nat} {X : Cx} {ℓ : Lc} {σ1 : St} {s : Shared} {h1 : Heap} {tk1 : Nat} {N : Lc → St → Prop} {E : Value → Shared → Prop}
theorem store_ok {k x v d} {Q : Unit → Shared → Prop} (fm : Fm nk n c X) (dy : Dy X ℓ σ1 h1) (hx : nk x = some k) (rd : VR h1 v d) (hp : sSet k x d ℓ σ1 N)
    (hQ : ∀ ℓ2 σ2 h2 tk2, Dy X ℓ2 σ2 h2 → Kp X.fr [X.env.locals] σ1 h1 σ2 h2 → TupK h1 h2 → N ℓ2 σ2 → Q () { s with heap := h2, toks := tk2 }) :
    wpAny (model prg X.w) X.A (storeName X.env x v) Q E { s with heap := h1, toks := tk1 } := by
  unfold sSet at hp
  cases k with
  | loc =>
    obtain ⟨m, hm⟩ := dy.own
    refine wpAny_storeName_local (fm.names x _ hx) hm.1 (fun h' hn hs => ?_) (by rw [fm.kind]; rfl)
    obtain ⟨dy', kp', t⟩ := dy.store hm hn hs rd
    exact hQ _ _ h' _ dy' kp' t hp
  | glb => exact hp.elim
  | fre => exact hp.elim
  | cod c q => exact hp.elim
  | cel =>
    dsimp only at hp
    cases q : ℓ.cel.lookup x with
    | none => rw [q] at hp; exact hp.elim
    | some a =>
      rw [q] at hp
      dsimp only at hp
      cases hd : σ1 a with
      | none => rw [hd] at hp; exact hp.elim
      | some o =>
      rw [hd] at hp
      cases o with
      | cell v0 =>
        have hl : X.env.cells.lookup x = some a := by rw [dy.cel]; exact q
        have hc : ∃ u, h1.IsCell a u := by
          have r := dy.rep a _ hd
          cases v0 with
          | none => exact ⟨_, r⟩
          | some d0 => obtain ⟨u, r1, _⟩ := r; exact ⟨_, r1⟩
        obtain ⟨u, hc⟩ := hc
        have fin : ∀ h', h'.IsCell a (some v) → Heap.SameBut a h1 h' → Q () { s with heap := h', toks := tk1 } := fun h' hc' hs' => by
          obtain ⟨dy', kp', t⟩ := dy.upd hd (sameBut_turn hs') (o' := .cell (some d)) fun t => ⟨v, hc', rd.keep t⟩
          exact hQ _ _ h' _ dy' (kp'.more nilSub) t hp
        exact wpAny_storeName_cell fm.kind (fm.names x _ hx) hl hc fin
      | _ => exact hp.elim
end
end Mine
end F_Abs7
section F_Abs8
open PySem PySem.W PySem.Spec PySem.Calls PyProof.Rows
namespace Mine
section
variable {M : Model} {A : Around} {E : Value → Shared → Prop}
theorem draw_list {prog : Program} {w : World} {it t : Addr} {items : Array Value} (hne : t ≠ it) : ∀ (n i : Nat) (s : Shared) (Q : List Value → Shared → Prop), s.heap.IsListIter it t i → s.heap.IsList t items → i + n ≤ items.size →
    (∀ h', h'.IsListIter it t (i + n) → Heap.SameBut it s.heap h' → Q ((items.toList.drop i).take n) { s with heap := h' }) → wpAny (model prog w) A (draw (.ref it) n) Q E s
  | 0, i, s, Q, hit, _, _, hQ => by
    show wpAny _ _ (pure []) Q E s
    exact wpAny_pure (by simpa using hQ s.heap hit (Heap.SameBut.refl ..))
  | n + 1, i, s, Q, hit, ht, hle, hQ => by
    have hlt : i < items.size := by omega
    show wpAny _ _ (pyNext (.ref it) >>= _) Q E s
    refine wpAny_bind (wpAny_pyNext_list_item hit ht (x := items[i]) (by simp [hlt]) fun h₁ hit₁ hs₁ => ?_)
    have ht₁ : h₁.IsList t items := by obtain ⟨o, e, r⟩ := ht; exact ⟨o, hs₁.extBut _ _ hne e, r⟩
    refine wpAny_bind (wpAny_holding (draw_list hne n (i + 1) _ _ hit₁ ht₁ (by omega) fun h₂ hit₂ hs₂ => wpAny_pure ?_))
    have hd : items.toList.drop i = items[i] :: items.toList.drop (i + 1) := by simp [List.drop_eq_getElem_cons, hlt]
    have := hQ h₂ (by rw [show i + (n + 1) = i + 1 + n by lia]; exact hit₂) (hs₁.trans hs₂)
    rw [hd, List.take_succ_cons] at this
    exact this
theorem unpackItems_list {prog : Program} {w : World} {s : Shared} {t : Addr} {items : Array Value} {Q : List Value → Shared → Prop} (hh : A.handled = none) (ht : s.heap.IsList t items)
    (hQ : ∀ h', Heap.ExtBut s.heap.objs.size s.heap h' → Q items.toList { s with heap := h' }) : wpAny (model prog w) A (unpackItems (.ref t) items.size none) Q E s := by
  have hlt : t ≠ s.heap.objs.size := by obtain ⟨o, ho, _⟩ := ht; exact Nat.ne_of_lt (Heap.lt_size ho)
  have hT : s.TypeIs (.ref t) "list" := by obtain ⟨o, ho, hc, _⟩ := ht; exact ⟨o, ho, hc⟩
  have htp : ∀ o, (s.heap.push o).IsList t items := fun o => by obtain ⟨o', e, r⟩ := ht; exact ⟨o', Heap.get?_push_of_some _ e, r⟩
  unfold unpackItems
  refine wpAny_bind ?_
  · unfold notIterableAtAll
    refine wpAny_bind (wpAny_specialOf hT F.slot_list_iter.lookup ?_)
    refine wpAny_pure ?_
    simp only [Bool.false_eq_true, if_false]
    refine wpAny_bind (wpAny_holding (wpAny_pyIter_list ht ?_))
    refine wpAny_bind (wpAny_holding (draw_list hlt items.size 0 _ _ ⟨_, Heap.get?_push_size _ rfl, rfl, rfl⟩ (htp _) (by lia) fun h₁ hit₁ hs₁ => ?_))
    have hall : List.take items.size (List.drop 0 items.toList) = items.toList := by
      rw [List.drop_zero]; exact List.take_of_length_le (by simp)
    rw [hall]
    rw [if_neg (by simp)]
    have ht₁ : h₁.IsList t items := by obtain ⟨o, e, r⟩ := htp { cls := .type "list_iterator", data := .fields #[.ref t, .int 0 0] }; exact ⟨o, hs₁.extBut _ _ hlt e, r⟩
    refine wpAny_bind (wpAny_holding (wpAny_pyNext_list_end hh hit₁ ht₁ (by simp) fun h₂ he₂ => ?_))
    simp only [Option.isSome_none, Bool.false_eq_true, if_false]
    refine wpAny_pure (hQ h₂ fun b o hb e => he₂ b o hb (hs₁.extBut b o hb (Heap.get?_push_of_some _ e)))
end
end Mine
end F_Abs8
section F_Abs9
open PySem PySem.W PySem.Spec PySem.Calls PyProof.Rows
namespace Mine
noncomputable def unp (d : D) (σ : St) (ds : List D) : Prop := match d with | .tup xs => xs = ds | .ref a => σ a = some (.list ds) | _ => False
section
variable {nk : Str → Option NK} {n c : Nat} {X : Cx} {ℓ : Lc} {σ1 : St} {s : Shared} {h1 : Heap} {tk1 : Nat} {N : Lc → St → Prop} {E : Value → Shared → Prop}
theorem unpackItems_ok {v d ds} {Q : List Value → Shared → Prop} (fm : Fm nk n c X) (dy : Dy X ℓ σ1 h1) (rd : VR h1 v d) (hu : unp d σ1 ds)
    (hQ : ∀ vs h2, Dy X ℓ σ1 h2 → Kp X.fr [] σ1 h1 σ1 h2 → TupK h1 h2 → VRs h2 vs ds → Q vs { s with heap := h2, toks := tk1 }) :
    wpAny (model prg X.w) X.A (unpackItems v ds.length none) Q E { s with heap := h1, toks := tk1 } := by
  cases d with
  | tup xs =>
    cases (hu : _ = _)
    obtain ⟨a, o, vs, k, rfl, g1, g2, g3, g4⟩ := rd.tup_inv
    rw [← g4.length, Array.length_toList]
    refine wpAny_unpackItems_tuple (s := { s with heap := h1, toks := tk1 }) fm.handled ⟨o, g1, g2, k, g3⟩ fun h2 hx => ?_
    obtain ⟨dy', kp', t'⟩ := dy.grow fun b o e => hx b o (Nat.ne_of_lt (Heap.lt_size e)) e
    exact hQ _ _ dy' kp' t' (g4.keep t')
  | ref a =>
    cases rd.ref_inv
    obtain ⟨o, vs, k, g1, g2, g3, g4⟩ := dy.rep _ _ hu
    rw [← g4.length, Array.length_toList]
    refine unpackItems_list (s := { s with heap := h1, toks := tk1 }) fm.handled ⟨o, g1, g2, k, g3⟩ fun h2 hx => ?_
    obtain ⟨dy', kp', t'⟩ := dy.grow fun b o e => hx b o (Nat.ne_of_lt (Heap.lt_size e)) e
    exact hQ _ _ dy' kp' t' (g4.keep t')
  | _ => exact hu.elim
theorem stores_ok (fm : Fm nk n c X) :
    ∀ (ks : List ((NK × Str) × (Value → Sem Unit))) {ds : List D} {vs : List Value} {ℓ : Lc} {σ1 : St} {h1 : Heap} {tk1 : Nat} {Q : Unit → Shared → Prop},
    (∀ p ∈ ks, ∀ v (s : Shared) (Q : Unit → Shared → Prop) (E : Value → Shared → Prop), wpAny (model prg X.w) X.A (storeName X.env p.1.2 v) Q E s → wpAny (model prg X.w) X.A (p.2 v) Q E s) →
    KsOk nk (ks.map (·.1)) → Dy X ℓ σ1 h1 → VRs h1 vs ds → sSets (ks.map (·.1)) ds ℓ σ1 N →
    (∀ ℓ2 σ2 h2 tk2, Dy X ℓ2 σ2 h2 → Kp X.fr [X.env.locals] σ1 h1 σ2 h2 → TupK h1 h2 → N ℓ2 σ2 → Q () { s with heap := h2, toks := tk2 }) →
    wpAny (model prg X.w) X.A (assignInOrder (ks.map (·.2)) vs) Q E { s with heap := h1, toks := tk1 }
  | [], [], vs, ℓ, σ1, h1, tk1, Q, ha, hk, dy, rd, hp, hQ => by
    cases rd
    exact wpAny_pure (hQ ℓ σ1 h1 tk1 dy .refl .refl hp)
  | [], _ :: _, vs, ℓ, σ1, h1, tk1, Q, ha, hk, dy, rd, hp, hQ => False.elim hp
  | _ :: _, [], vs, ℓ, σ1, h1, tk1, Q, ha, hk, dy, rd, hp, hQ => False.elim hp
  | ((k, x), act) :: ks, d :: ds, vs, ℓ, σ1, h1, tk1, Q, ha, hk, dy, rd, hp, hQ => by
    obtain ⟨v, vs, rfl, r1, r2⟩ := rd.cons_inv
    show wpAny _ _ (do holding vs (act v); assignInOrder (ks.map (·.2)) vs) _ _ _
    refine wpAny_bind (wpAny_holding (ha _ (.head _) _ _ _ _ (store_ok (k := k) (d := d) fm dy (hk (k, x) (.head _)) r1 hp fun ℓ2 σ2 h2 tk2 dy2 kp2 t2 hp2 => ?_)))
    refine stores_ok fm ks (fun p q => ha p (.tail _ q)) (fun p q => hk p (.tail _ q)) dy2 (r2.keep t2) hp2 fun ℓ3 σ3 h3 tk3 dy3 kp3 t3 hp3 => ?_
    exact hQ ℓ3 σ3 h3 tk3 dy3 (kp2.trans kp3) (t2.trans t3) hp3
end
inductive NmT : List Expr → List (NK × Str) → Prop
  | nil : NmT [] []
  | cons {x p es k ks} : NmT es ks → NmT (.Name x p :: es) ((k, x) :: ks)
theorem NmT.each {es ks} (h : NmT es ks) (env : Env) : (assignEach es env).length = ks.length ∧ (assignEach es env).findIdx? (·.1) = none ∧
    ∃ acts : List ((NK × Str) × (Value → Sem Unit)), (assignEach es env).map (·.2) = acts.map (·.2) ∧ acts.map (·.1) = ks ∧ ∀ p ∈ acts, ∃ pos, p.2 = assign (.Name p.1.2 pos) env := by
  induction h with
  | nil => exact ⟨rfl, rfl, [], rfl, rfl, fun _ h => nomatch h⟩
  | @cons x p es k ks _ ih =>
    obtain ⟨i1, i2, acts, i3, i4, i5⟩ := ih
    have e : assignEach (.Name x p :: es) env = (false, assign (.Name x p) env) :: assignEach es env := rfl
    rw [e]
    refine ⟨by simp [i1], by simp [List.findIdx?_cons, i2], ((k, x), assign (.Name x p) env) :: acts, by simp [i3], by simp [i4], fun q hq => ?_⟩
    rcases List.mem_cons.mp hq with rfl | hq
    · exact ⟨p, rfl⟩
    · exact i5 q hq
section
variable {nk : Str → Option NK} {n c : Nat} {X : Cx} {ℓ : Lc} {σ1 : St} {s : Shared} {h1 : Heap} {tk1 : Nat} {N : Lc → St → Prop} {E : Value → Shared → Prop}
theorem assignT_ok {es ks k pos v d ds} {Q : Unit → Shared → Prop} (fm : Fm nk n c X) (he : NmT es ks) (hk : KsOk nk ks) (dy : Dy X ℓ σ1 h1) (rd : VR h1 v d) (hu : unp d σ1 ds) (hl : ds.length = ks.length) (hp : sSets ks ds ℓ σ1 N)
    (hQ : ∀ ℓ2 σ2 h2 tk2, Dy X ℓ2 σ2 h2 → Kp X.fr [X.env.locals] σ1 h1 σ2 h2 → TupK h1 h2 → N ℓ2 σ2 → Q () { s with heap := h2, toks := tk2 }) :
    wpAny (model prg X.w) X.A (assign (.Tuple es k pos) X.env v) Q E { s with heap := h1, toks := tk1 } := by
  rw [arm_assign_Tuple]
  obtain ⟨e1, e2, acts, e3, e4, e5⟩ := he.each X.env
  refine wpAny_bind (wpAny_standAt ?_)
  unfold unpack
  rw [e1, e2, ← hl]
  refine wpAny_bind (wpAny_holding (unpackItems_ok fm dy rd hu fun vs h2 dy2 kp2 t2 r2 => ?_))
  rw [e3]
  refine stores_ok fm acts (fun p q v s Q E h => ?_) (by rw [e4]; exact hk) dy2 r2 (by rw [e4]; exact hp) fun ℓ3 σ3 h3 tk3 dy3 kp3 t3 hp3 => ?_
  · obtain ⟨pos, e⟩ := e5 p q
    rw [e]; exact wpAny_assign_Name h
  · exact hQ ℓ3 σ3 h3 tk3 dy3 ((kp2.more nilSub).trans kp3) (t2.trans t3) hp3
theorem swapT_ok {ks : List (NK × Str)} {ds : List D} {vs : List Value} {Q : Unit → Shared → Prop} (fm : Fm nk n c X) (hk : KsOk nk ks) (dy : Dy X ℓ σ1 h1) (rd : VRs h1 vs ds) (hp : sSets ks ds ℓ σ1 N)
    (hQ : ∀ ℓ2 σ2 h2 tk2, Dy X ℓ2 σ2 h2 → Kp X.fr [X.env.locals] σ1 h1 σ2 h2 → TupK h1 h2 → N ℓ2 σ2 → Q () { s with heap := h2, toks := tk2 }) :
    wpAny (model prg X.w) X.A (assignInOrder ((ks.map (·.2)).map fun n => bindName X.env n) vs) Q E { s with heap := h1, toks := tk1 } := by
  have e : (ks.map (·.2)).map (fun n => bindName X.env n) = (ks.map fun k => (k, bindName X.env k.2)).map (·.2) := by simp
  have e' : (ks.map fun k => (k, bindName X.env k.2)).map (·.1) = ks := by rw [List.map_map]; exact List.map_id _
  rw [e]
  refine stores_ok fm _ (fun p q v s Q E h => ?_) (by rw [e']; exact hk) dy rd (by rw [e']; exact hp) hQ
  obtain ⟨k, _, rfl⟩ := List.mem_map.mp q
  exact wpAny_bindName h
end
noncomputable def sAsg (k : NK) (x : Str) (P : EvP) : SP := fun ℓ σ N R E => P ℓ σ (fun d σ1 => sSet k x d ℓ σ1 N) E
noncomputable def sAsgT (ks : List (NK × Str)) (P : EvP) : SP := fun ℓ σ N R E => P ℓ σ (fun d σ1 => ∃ ds, unp d σ1 ds ∧ ds.length = ks.length ∧ sSets ks ds ℓ σ1 N) E
noncomputable def sSwap (ks : List (NK × Str)) (P : EvP) : SP := fun ℓ σ N R E => P ℓ σ (fun d σ1 => ∃ ds, unp d σ1 ds ∧ ds.length = ks.length ∧ sSets ks.reverse ds.reverse ℓ σ1 N) E
noncomputable def sRet (P : EvP) : SP := fun ℓ σ N R E => P ℓ σ R E
noncomputable def sExpr (P : EvP) : SP := fun ℓ σ N R E => P ℓ σ (fun _ σ1 => N ℓ σ1) E
noncomputable def sIf (B : BvP) (P1 P2 : SP) : SP := fun ℓ σ N R E => B ℓ σ (fun b σ1 => if b then P1 ℓ σ1 N R E else P2 ℓ σ1 N R E) E
noncomputable def sNil : SP := fun ℓ σ N R E => N ℓ σ
noncomputable def sSeq (P1 P2 : SP) : SP := fun ℓ σ N R E => P1 ℓ σ (fun ℓ1 σ1 => P2 ℓ1 σ1 N R E) R E
section
variable {nk : Str → Option NK} {n c : Nat}
theorem SndS.asg {k x px e pos P} (H : SndE nk n c e P) (hx : nk x = some k) (hs : ∀ env, swapsWith e (some (.Name x px)) pos.line env = pure false) : SndS nk n c (.Assign [.Name x px] e pos) (sAsg k x P) := fun X ℓ σ s N R E fs dy hp => by
  refine wpAny_Assign_Name (H.run (h1 := s.heap) (tk1 := s.toks) fs.toFm dy .refl hp fun v d σ1 h1 tk1 rd dy1 _ kp1 t1 hp1 => ?_) (hs _)
  exact store_ok fs.toFm dy1 hx rd hp1 fun ℓ2 σ2 h2 tk2 dy2 kp2 t2 hp2 => PS.next dy2 (kp1.trans kp2) hp2
theorem SndS.asgT {ks es k px e pos P} (H : SndE nk n c e P) (he : NmT es ks) (hk : KsOk nk ks) (hs : ∀ env, swapsWithSole [.Tuple es k px] e pos.line env = pure false) (hw : ∀ X : Cx, Fm nk n c X → swappedStores [.Tuple es k px] e X.env = pure none) :
    SndS nk n c (.Assign [.Tuple es k px] e pos) (sAsgT ks P) := fun X ℓ σ s N R E fs dy hp => by
  refine Assign_Tuple (H.run (h1 := s.heap) (tk1 := s.toks) fs.toFm dy .refl hp fun v d σ1 h1 tk1 rd dy1 _ kp1 t1 hp1 => ?_) (hs _) (hw _ fs.toFm)
  obtain ⟨ds, hu, hl, hp1⟩ := hp1
  exact assignT_ok fs.toFm he hk dy1 rd hu hl hp1 fun ℓ2 σ2 h2 tk2 dy2 kp2 t2 hp2 => PS.next dy2 (kp1.trans kp2) hp2
theorem SndS.swap {ks es k px e pos P} (H : SndE nk n c e P) (hk : KsOk nk ks) (hs : ∀ env, swapsWithSole [.Tuple es k px] e pos.line env = pure false) (hw : ∀ X : Cx, Fm nk n c X → swappedStores [.Tuple es k px] e X.env = pure (some (ks.map (·.2)))) :
    SndS nk n c (.Assign [.Tuple es k px] e pos) (sSwap ks P) := fun X ℓ σ s N R E fs dy hp => by
  refine Assign_Tuple_swapped (H.run (h1 := s.heap) (tk1 := s.toks) fs.toFm dy .refl hp fun v d σ1 h1 tk1 rd dy1 _ kp1 t1 hp1 => ?_) (hs _) (hw _ fs.toFm)
  obtain ⟨ds, hu, hl, hp1⟩ := hp1
  rw [List.length_map, ← hl]
  refine unpackItems_ok fs.toFm dy1 rd hu fun vs h2 dy2 kp2 t2 r2 => ?_
  have r2' : VRs h2 vs.reverse ds.reverse := by
    clear hp1 hl hu rd
    induction ds generalizing vs with
    | nil => cases r2; exact .nil
    | cons d ds ih => obtain ⟨v, vs, rfl, a, b⟩ := r2.cons_inv; simp only [List.reverse_cons]; exact (ih _ b).append (.cons a .nil)
  rw [← List.map_reverse]
  exact swapT_ok fs.toFm (fun p q => hk p (List.mem_reverse.mp q)) dy2 r2' hp1 fun ℓ3 σ3 h3 tk3 dy3 kp3 t3 hp3 => PS.next dy3 ((kp1.trans (kp2.more nilSub)).trans kp3) hp3
theorem SndS.ret {e pos P} (H : SndE nk n c e P) : SndS nk n c (.Return (some e) pos) (sRet P) := fun X ℓ σ s N R E fs dy hp => by
  refine wpAny_Return_some (H.run (h1 := s.heap) (tk1 := s.toks) fs.toFm dy .refl hp fun v d σ1 h1 tk1 rd dy1 _ kp1 t1 hp1 => ?_)
  exact PS.ret rd dy1 kp1 hp1
theorem SndS.expr {e pos P} (H : SndE nk n c e P) (hs : ∀ env, swapsWith e none pos.line env = pure false) : SndS nk n c (.Expr e pos) (sExpr P) := fun X ℓ σ s N R E fs dy hp => by
  refine wpAny_Expr_any (H.run (h1 := s.heap) (tk1 := s.toks) fs.toFm dy .refl hp fun v d σ1 h1 tk1 rd dy1 _ kp1 t1 hp1 => ?_) (by unfold interactive; rw [fs.kind]; rfl) (hs _)
  exact PS.next dy1 kp1 hp1
theorem SndS.if_ {t b o pos B P1 P2} (H : SndB nk n c t B) (H1 : SndSs nk n c b P1) (H2 : SndSs nk n c o P2) : SndS nk n c (.If t b o pos) (sIf B P1 P2) := fun X ℓ σ s N R E fs dy hp => by
  refine wpAny_If (H.run (h1 := s.heap) (tk1 := s.toks) fs.toFm dy .refl hp fun b σ1 h1 tk1 dy1 _ kp1 t1 hp1 => ?_)
  cases b with
  | true => exact H1.run fs dy1 kp1 hp1
  | false => exact H2.run fs dy1 kp1 hp1
theorem SndSs.nil : SndSs nk n c [] sNil := fun X ℓ σ s N R E fs dy hp => wpAny_execs_nil (PS.next (tk' := s.toks) dy .refl hp)
theorem SndSs.cons {st sts P1 P2} (H1 : SndS nk n c st P1) (H2 : SndSs nk n c sts P2) : SndSs nk n c (st :: sts) (sSeq P1 P2) := fun X ℓ σ s N R E fs dy hp => by
  refine wpAny_execs_cons (wpAny_mono (H1 X ℓ σ s _ R E fs dy hp) (fun f s' p => ?_) fun v s' p => p)
  rcases p with ⟨rfl, ℓ', σ', h', tk', rfl, dy', kp', q⟩ | ⟨v, d, ℓ', σ', h', tk', rfl, rfl, vr, dy', kp', q⟩
  · exact H2.run fs dy' kp' q
  · exact PS.ret vr dy' kp' q
end
end Mine
end F_Abs9
section F_Abs10
open PySem PySem.W PySem.Spec PySem.Calls PyProof.Rows
namespace Mine
theorem subs_ops (slice : Expr) (o i : Value) : ∃ ops, subscripted slice false o i = operate ops (getItem o i) := by
  cases slice with
  | Slice a b c p => cases c <;> exact ⟨_, rfl⟩
  | _ => exact ⟨_, rfl⟩
noncomputable def opItem (o i : D) (σ : St) (Q : D → St → Prop) : Prop :=
  match o, i with
  | .tup xs, .int k => ∃ d, (0 ≤ k ∧ k < 2 ^ 63) ∧ xs[k.toNat]? = some d ∧ Q d σ
  | .ref a, .int k => ∃ xs d, σ a = some (.list xs) ∧ (0 ≤ k ∧ k < 2 ^ 63) ∧ xs[k.toNat]? = some d ∧ Q d σ
  | .ref a, .tup ks => ∃ ky es d, σ a = some (.dict es) ∧ D.tup ks = kyD ky ∧ es.lookup ky = some d ∧ Q d σ
  | _, _ => False
noncomputable def slc {α : Type} (xs : List α) (lo hi : Option Int) : List α := (xs.drop (lo.elim 0 (clipAt xs.length))).take (hi.elim xs.length (clipAt xs.length) - lo.elim 0 (clipAt xs.length))
theorem slc_pick (items : Array Value) (lo hi : Option Int) : slicePick items lo hi none = (slc items.toList lo hi).toArray := by
  unfold slicePick slc
  rw [sliceBounds_plain]
  simp only [sliceRange_one, pick_run, Array.length_toList]
theorem VRs.slc {h vs ds} (x : VRs h vs ds) (lo hi : Option Int) : VRs h (Mine.slc vs lo hi) (Mine.slc ds lo hi) := by
  unfold Mine.slc
  rw [x.length]
  exact (x.drop _).take _
noncomputable def isLst (σ : St) (a : Addr) (xs : List D) : Prop := σ a = some (.list xs) ∨ ∃ o, σ a = some (.fix o xs)
noncomputable def opSlice (o : D) (lo hi : Option Int) (σ : St) (Q : D → St → Prop) : Prop :=
  match o with
  | .ref a => ∃ xs, isLst σ a xs ∧ xs.length ≤ 100000 ∧ ∀ c, σ c = none → Q (.ref c) (σ.put c (.list (slc xs lo hi)))
  | .bytes b => b.size ≤ 100000 ∧ Q (.bytes (slc b.toList lo hi).toArray) σ
  | .tup [x, y, _] => lo = none ∧ hi = some 2 ∧ Q (.tup [x, y]) σ
  | _ => False
section
variable {X : Cx} {ℓ : Lc} {σ σ1 : St} {s : Shared} {h1 : Heap} {tk1 : Nat} {Q : D → St → Prop} {E : Value → Shared → Prop}
theorem tail_of {value slice : Expr} {o i : Value} {T id : String} {R : Value → Shared → Prop} {prog : Program} {w : World} {A : Around} (hT : s.TypeIs o T)
    (hl : typeLookup (.type T) "__getitem__" = pure (some (.builtin id))) (hg : wpAny (model prog w) A (getItem o i) R E s) : wpAny (model prog w) A (subscriptTail value slice o i) R E s := by
  obtain ⟨ops, e⟩ := subs_ops slice o i
  exact tail_any hT hl hg e
theorem opItem_ok {value slice : Expr} {o i : D} {vo vi : Value} (dy : Dy X ℓ σ1 h1) (hu : X.A.units + 60 < cLine) (kp : Kp X.fr [] σ s.heap σ1 h1) (ro : VR h1 vo o) (ri : VR h1 vi i) (hp : opItem o i σ1 Q) :
    wpAny (model prg X.w) X.A (subscriptTail value slice vo vi) (PE X ℓ σ s Q) E { s with heap := h1, toks := tk1 } := by
  cases o with
  | tup xs => cases i with
    | int k =>
      obtain ⟨d, ⟨k0, k1⟩, hx, hq⟩ := hp
      obtain ⟨t, rfl⟩ := ri.int_inv
      obtain ⟨a, o, vs, n, rfl, g1, g2, g3, g4⟩ := ro.tup_inv
      obtain ⟨v, hv, rv⟩ := g4.get hx
      have hT : IsTup h1 a vs := ⟨o, g1, g2, n, g3⟩
      have hlt : k.toNat < vs.size := by
        have := (List.getElem?_eq_some_iff.mp hv).1
        rwa [Array.length_toList] at this
      refine tail_of (s := { s with heap := h1, toks := tk1 }) hT.typeIs slot_tuple_getitem.lookup (PyProof.Rows.getItem_tuple (j := k.toNat) (x := v) hT (by omega) k1 ?_ (by rw [← Array.getElem?_toList]; exact hv) (PE.mk (tk' := tk1) rv dy kp hq))
      have hn : ¬ k < 0 := by omega
      have h3 : k < (vs.size : Int) := by lia
      simp [seqIndex?, hn, k0, h3]
    | _ => exact hp.elim
  | ref a => cases i with
    | int k =>
      obtain ⟨xs, d, ha, ⟨k0, k1⟩, hx, hq⟩ := hp
      obtain ⟨t, rfl⟩ := ri.int_inv
      cases ro.ref_inv
      obtain ⟨o, vs, n, g1, g2, g3, g4⟩ := dy.rep _ _ ha
      obtain ⟨v, hv, rv⟩ := g4.get hx
      exact tail_of (s := { s with heap := h1, toks := tk1 }) ⟨o, g1, g2⟩ slot_list_getitem.lookup (wpAny_getItem_list ⟨o, g1, g2, n, g3⟩ k0 k1 (by rw [← Array.getElem?_toList]; exact hv) (PE.mk (tk' := tk1) rv dy kp hq))
    | tup ks =>
      obtain ⟨ky, es, d, ha, e, hd, hq⟩ := hp
      rw [e] at ri
      obtain ⟨ak, rfl, hk⟩ := vr_ky X.w ri
      cases ro.ref_inv
      obtain ⟨xs, hx, rx⟩ := dy.rep _ _ ha
      have := rx.look ky
      rw [hd] at this
      obtain ⟨a', v, hat, rv⟩ := this
      obtain ⟨ops, e⟩ := subs_ops slice (.ref a) (.ref ak)
      exact dict_item (s := { s with heap := h1, toks := tk1 }) (by omega) hk hx hat (PE.mk rv dy kp hq) e
    | _ => exact hp.elim
  | _ => exact hp.elim
theorem opSlice_ok {value slice : Expr} {o : D} {vo vl vu : Value} {lo hi : Option Int} (dy : Dy X ℓ σ1 h1) (kp : Kp X.fr [] σ s.heap σ1 h1) (ro : VR h1 vo o) (hl : IsPart vl lo) (hh : IsPart vu hi) (hp : opSlice o lo hi σ1 Q) :
    wpAny (model prg X.w) X.A (subscriptTail value slice vo (.ref h1.objs.size)) (PE X ℓ σ s Q) E { s with heap := h1.push { cls := .type "slice", data := .fields #[vl, vu, .none] }, toks := tk1 } := by
  obtain ⟨dy2, kp2, t2⟩ := dy.push { cls := .type "slice", data := .fields #[vl, vu, .none] }
  have hsl : (h1.push { cls := .type "slice", data := .fields #[vl, vu, .none] }).IsSliceOf h1.objs.size vl vu .none := Heap.IsSliceOf.new _ _ _ _
  generalize hH : h1.push { cls := .type "slice", data := .fields #[vl, vu, .none] } = h2 at *
  cases o with
  | ref a0 =>
    obtain ⟨xs, ha, hz, hq⟩ := hp
    cases ro.ref_inv
    have : LstO h2 a0 xs := by
      rcases ha with ha | ⟨o, ha⟩
      · exact dy2.rep _ _ ha
      · obtain ⟨b1, b2, vs, n, b3, b4⟩ := dy2.rep _ _ ha
        exact ⟨o, vs, n, b1, b2, b3, b4⟩
    obtain ⟨o, vs, n, g1, g2, g3, g4⟩ := this
    refine tail_of (s := { s with heap := h2, toks := tk1 }) ⟨o, g1, g2⟩ slot_list_getitem.lookup (wpAny_getItem_list_slice (s := { s with heap := h2, toks := tk1 }) ⟨o, g1, g2, n, g3⟩ hsl hl hh .none (fun e => nomatch e) ?_ (le_size (by rw [← Array.length_toList, g4.length]; exact hz)))
    rw [slc_pick]
    obtain ⟨dy3, kp3, t3⟩ := dy2.push { cls := .type "list", data := .seq (slc vs.toList lo hi).toArray }
    obtain ⟨dy4, kp4⟩ := dy2.addTo (o := .list (slc xs lo hi)) dy3 kp3 dy2.newA ⟨_, _, _, Heap.get?_push_size _ rfl, rfl, rfl, by simpa using (g4.slc lo hi).keep t3⟩
    exact PE.mk (tk' := tk1) (.ref _) dy4 ((kp.trans kp2).trans kp4) (hq _ (dy2.fresh dy2.newA))
  | bytes b =>
    obtain ⟨t, rfl⟩ := ro.bytes_inv
    refine tail_of (s := { s with heap := h2, toks := tk1 }) (typeIs_bytes _ _ _) FB.slot_bytes_getitem.lookup (getItem_meets (typeIs_bytes _ _ _) (by decide) FB.slot_bytes_getitem FB.entry_bytes_getitem (FB.args_bytes_getitem_2 _ _) (KBc.meets_slice2 b t _ hl hh)
      ⟨hsl, Nat.le_trans (KBc.size_picked_le b lo hi) (le_size hp.1), fun t' k => ?_⟩)
    refine PE.mk (.bytes _ _) dy2 (kp.trans kp2) ?_
    rw [KBc.picked_eq]
    have := And.right (hp : b.size ≤ 100000 ∧ Q (.bytes (slc b.toList lo hi).toArray) σ1)
    unfold slc at this
    rwa [Array.length_toList] at this
  | tup xs => rcases xs with _ | ⟨x, _ | ⟨y, _ | ⟨z, _ | ⟨u, r⟩⟩⟩⟩
              · exact hp.elim
              · exact hp.elim
              · exact hp.elim
              · obtain ⟨rfl, rfl, hq⟩ := hp
                cases hl
                cases hh with
                | int i u =>
                have ro2 := ro.keep t2
                obtain ⟨a, o, vs, n, rfl, g1, g2, g3, g4⟩ := ro2.tup_inv
                obtain ⟨v1, r1, e1, p1, q1⟩ := g4.cons_inv
                obtain ⟨v2, r2, rfl, p2, q2⟩ := q1.cons_inv
                obtain ⟨v3, r3, rfl, p3, q3⟩ := q2.cons_inv
                cases q3.nil_inv
                have hvs : vs = #[v1, v2, v3] := by rw [← Array.toArray_toList (xs := vs), e1]
                subst hvs
                have hT : IsTup h2 a #[v1, v2, v3] := ⟨o, g1, g2, n, g3⟩
                refine tail_of (s := { s with heap := h2, toks := tk1 }) hT.typeIs slot_tuple_getitem.lookup (getItem_tup2 (s := { s with heap := h2, toks := tk1 }) hT hsl ?_)
                obtain ⟨dy3, kp3, t3⟩ := dy2.push (tupO #[v1, v2])
                exact PE.mk (tk' := tk1) (.tup (Heap.get?_push_size _ rfl) rfl rfl (.cons (p1.keep t3) (.cons (p2.keep t3) .nil))) dy3 ((kp.trans kp2).trans kp3) hq
              · exact hp.elim
  | _ => exact hp.elim
end
noncomputable def pItem (P1 P2 : EvP) : EvP := fun ℓ σ Q E => P1 ℓ σ (fun a σ1 => P2 ℓ σ1 (fun b σ2 => opItem a b σ2 Q) E) E
noncomputable def qPart : Option EvP → Lc → St → (Option Int → St → Prop) → (Addr → St → Prop) → Prop
  | none, _, σ, Q, _ => Q none σ
  | some P, ℓ, σ, Q, E => P ℓ σ (fun d σ' => match d with | .int i => Q (some i) σ' | _ => False) E
noncomputable def pSlice (P : EvP) (lo hi : Option EvP) : EvP := fun ℓ σ Q E => P ℓ σ (fun a σ1 => qPart lo ℓ σ1 (fun l σ2 => qPart hi ℓ σ2 (fun u σ3 => opSlice a l u σ3 Q) E) E) E
inductive SndP (nk : Str → Option NK) (n c : Nat) : Option Expr → Option EvP → Prop
  | none : SndP nk n c none none
  | some {e P} : SndE nk n c e P → SndP nk n c (some e) (some P)
section
variable {nk : Str → Option NK} {n c : Nat}
theorem SndE.item {v i pos P1 P2} (H1 : SndE nk n c v P1) (H2 : SndE nk n c i P2) : SndE nk n c (.Subscript v i pos) (pItem P1 P2) := fun X ℓ σ s Q E fm dy hp => by
  refine Subscript_ (H1.run (h1 := s.heap) (tk1 := s.toks) fm dy .refl hp fun va a σ1 h1 tk1 ra dy1 _ kp1 t1 hp1 => ?_)
  refine H2.run fm dy1 kp1 hp1 fun vb b σ2 h2 tk2 rb dy2 _ kp2 t2 hp2 => ?_
  exact opItem_ok dy2 fm.u60 kp2 (ra.keep t2) rb hp2
theorem SndP.run {x P} (H : SndP nk n c x P) {X : Cx} {ℓ : Lc} {σ σ1 : St} {s : Shared} {h1 : Heap} {tk1 : Nat} {E : Addr → St → Prop} (fm : Fm nk n c X) (dy : Dy X ℓ σ1 h1) (kp : Kp X.fr [] σ s.heap σ1 h1) {Q1 : Option Int → St → Prop} {R : Value → Shared → Prop} (hp : qPart P ℓ σ1 Q1 E)
    (k : ∀ v d σ2 h2 tk2, IsPart v d → Dy X ℓ σ2 h2 → Kp X.fr [] σ s.heap σ2 h2 → TupK h1 h2 → Q1 d σ2 → R v { s with heap := h2, toks := tk2 }) :
    wpAny (model prg X.w) X.A (evalPart x X.env) R (PX X [] σ s E) { s with heap := h1, toks := tk1 } := by
  cases H with
  | none => exact wpAny_evalPart_none (k _ _ _ _ _ .none dy kp .refl hp)
  | some H =>
    refine wpAny_evalPart_some (H.run fm dy kp hp fun v d σ2 h2 tk2 rd dy2 _ kp2 t2 hp2 => ?_)
    cases d with
    | int i => obtain ⟨t, rfl⟩ := rd.int_inv; exact k _ _ _ _ _ (.int _ _) dy2 kp2 t2 hp2
    | _ => exact hp2.elim
theorem SndE.slice {v lo hi pos pos' P Pl Ph} (H : SndE nk n c v P) (Hl : SndP nk n c lo Pl) (Hh : SndP nk n c hi Ph) : SndE nk n c (.Subscript v (.Slice lo hi Option.none pos') pos) (pSlice P Pl Ph) := fun X ℓ σ s Q E fm dy hp => by
  refine Subscript_ (H.run (h1 := s.heap) (tk1 := s.toks) fm dy .refl hp fun va a σ1 h1 tk1 ra dy1 _ kp1 t1 hp1 => ?_)
  refine wpAny_Slice (Hl.run fm dy1 kp1 hp1 fun vl l σ2 h2 tk2 rl dy2 kp2 t2 hp2 => ?_)
  refine Hh.run fm dy2 kp2 hp2 fun vu u σ3 h3 tk3 ru dy3 kp3 t3 hp3 => ?_
  refine wpAny_evalPart_none ?_
  exact opSlice_ok dy3 kp3 ((ra.keep t2).keep t3) rl ru hp3
end
end Mine
end F_Abs10
section F_Abs11
open PySem PySem.W PySem.Spec PySem.Calls PyProof.Rows
namespace Mine
noncomputable abbrev KF (w : World) : Frag := hd.heap_1 w.params
noncomputable def fput (x : Str) (d : D) : List (Str × D) → List (Str × D)
  | [] => [(x, d)]
  | (y, e) :: r => if y = x then (y, d) :: r else (y, e) :: fput x d r
theorem ARows.noRef {w h es fs} (r : ARows w h es fs) : es.any (·.refKey) = false := by
  induction r with
  | nil => rfl
  | cons _ _ ih => simp only [List.any_cons, ih, Bool.or_false]; rfl
theorem ARows.get {w h es fs} (r : ARows w h es fs) {x d} (e : fs.lookup x = some d) : ∃ v, getL x es = some (some v) ∧ VR h v d := by
  induction r with
  | nil => cases e
  | @cons y t v d' es fs rv r ih =>
    unfold getL
    rw [List.find?_cons]
    rw [List.lookup_cons] at e
    by_cases q : x = y
    · subst q
      rw [beq_self_eq_true] at e
      cases e
      have : (DictEntry.mk (PyData.keyHash w.params x) (.str x t) v).key.isStr x = true := by simp [Value.isStr]
      rw [this]
      exact ⟨v, rfl, rv⟩
    · rw [beq_false_of_ne q] at e
      have : (DictEntry.mk (PyData.keyHash w.params y) (.str y t) v).key.isStr x = false := by simp [Value.isStr, Ne.symm q]
      rw [this]
      obtain ⟨v', h1, h2⟩ := ih e
      unfold getL at h1
      refine ⟨v', ?_, h2⟩
      split at h1
      · rename_i e' he; rw [he]; exact h1
      · rename_i he; rw [r.noRef] at h1; simp at h1
theorem ARows.getN {w h es fs} (r : ARows w h es fs) {x} (e : fs.lookup x = none) : getL x es = some none := by
  have hf : es.find? (·.key.isStr x) = none := by
    induction r with
    | nil => rfl
    | @cons y t v d' es fs rv r ih =>
      rw [List.lookup_cons] at e
      by_cases q : x = y
      · subst q; rw [beq_self_eq_true] at e; cases e
      · rw [beq_false_of_ne q] at e
        rw [List.find?_cons]
        have : (DictEntry.mk (PyData.keyHash w.params y) (.str y t) v).key.isStr x = false := by simp [Value.isStr, Ne.symm q]
        rw [this]; exact ih e
  unfold getL
  rw [hf, r.noRef]; rfl
theorem ARows.put {w h es fs} (r : ARows w h es fs) {x d v} (t : Tok) (rv : VR h v d) : ARows w h (putL x (PyData.keyHash w.params x) (.str x t) v es) (fput x d fs) := by
  induction r with
  | nil => exact .cons rv .nil
  | @cons y t' v' d' es fs rv' r ih =>
    unfold putL fput
    by_cases q : y = x
    · subst q
      rw [if_pos (by simp [Value.isStr]), if_pos rfl]
      exact .cons rv r
    · rw [if_neg (by simp [Value.isStr, q]), if_neg q]
      exact .cons rv' ih
theorem ARows.length {w h es fs} (r : ARows w h es fs) : es.length = fs.length := by
  induction r with
  | nil => rfl
  | cons _ _ ih => simp [ih]
theorem Dy.updN {X ℓ σ h h' m a o o' ob} (y : Dy X ℓ σ h) (ha : σ a = some o) (hm : h.Ns X.env.locals m) (F : Fr emptyH X.env.locals h' m) (N : News emptyH X.env.locals h' ((a, ob) :: allBut h X.env.locals a)) (r : TupK h h' → h'.get? a = some ob → ORep X.w h' a o') :
    Dy X ℓ (σ.put a o') h' ∧ Kp X.fr [] σ h (σ.put a o') h' ∧ TupK h h' := by
  have k : ∀ b ob, b ≠ X.env.locals → b ≠ a → h.get? b = some ob → h'.get? b = some ob := fun b ob n1 n2 e => (N (b, ob) (.tail _ (mem_allBut.mpr ⟨n1, n2, e⟩))).1
  have ha' := (N _ (.head _)).1
  have t : TupK h h' := by
    intro b ob' hc hs e
    refine k b ob' (fun q => ?_) (fun q => ?_) e
    · rw [q] at e; exact ns_notSeq hm e hs
    · obtain ⟨ob', e', n⟩ := (y.rep a o ha).some_
      rw [← q, e] at e'; cases e'; exact n ⟨hc, hs⟩
  have x : Kp X.fr [] σ h (σ.put a o') h' := ⟨fun b ob e n n1 _ => k b ob (fun q => n1 (q ▸ .head _)) (fun q => by rw [q, ha] at n; cases n) e, fun b m' n hn _ _ => by
    by_cases q : b = X.env.locals
    · subst q; rw [n.eq_nsMap, ← hm.eq_nsMap]; exact F.ns
    · exact n.at' fun ob e => k b ob q (fun q => by rw [q, ha] at hn; cases hn) e, (fun b ob e => by
    by_cases q : b = X.env.locals
    · subst q; exact ns_some F.ns
    · by_cases q' : b = a
      · subst q'; exact ⟨_, ha'⟩
      · exact ⟨ob, k b ob q q' e⟩), fun b n => by
    by_cases q : b = a
    · exact .inl (by rw [q, ha]; simp)
    · rw [St.put_ne q] at n; exact .inl n, St.put_mono⟩
  refine ⟨y.to x fun b ob e => ?_, x, t⟩
  by_cases q : b = a
  · subst q; rw [St.put_same] at e; cases e; exact r t ha'
  · rw [St.put_ne q] at e
    exact (y.rep b ob e).keep t fun o e' => k b o (fun q' => by rw [q', y.off _ (.head _)] at e; cases e) q e'
structure AttrOk (w : World) (C : Addr) (x : Str) : Prop where
  g : plainGet (KF w) C x = true
  h : hasDictIn (KF w) C = true
  f : ∃ attr, findIn (KF w) (.ref C) x = some attr ∧ noGet (KF w) attr = true
structure AttrSet (w : World) (C : Addr) (x : Str) : Prop where
  s : findIn (KF w) (.ref C) "__setattr__" = some (some (.builtin "object.__setattr__"))
  p : plainOver (KF w) C = true
  t : takerIn (KF w) C x = some none
  h : hasDictIn (KF w) C = true
theorem Dy.KB {X ℓ σ h} (y : Dy X ℓ σ h) (G : Glob X.w X.hB) : (KF X.w).In h := G.K.keeps y.stays
section
variable {X : Cx} {ℓ : Lc} {σ σ1 : St} {s : Shared} {h1 : Heap} {tk1 : Nat} {E : Value → Shared → Prop}
theorem vr_handed {h : Heap} {v d} (r : VR h v d) : handedIn v = true := by cases r <;> rfl
theorem attr_get {a C td : Addr} {fs : List (Str × D)} {x : Str} {d : D} {ex : Bool} {Q : Value → Shared → Prop} (G : Glob X.w X.hB) (dy : Dy X ℓ σ1 h1) (ok : AttrOk X.w C x) (ha : σ1 a = some (.inst C td)) (hf : σ1 td = some (.attrs fs)) (hd : fs.lookup x = some d)
    (hQ : ∀ v tk2, VR h1 v d → Q v { s with heap := h1, toks := tk2 }) : wpAny (model prg X.w) X.A (getAttr (.ref a) x ex) Q E { s with heap := h1, toks := tk1 } := by
  have r1 := dy.rep _ _ ha
  obtain ⟨es, n, r2, rr⟩ := dy.rep _ _ hf
  obtain ⟨v, hv, rv⟩ := rr.get hd
  obtain ⟨attr, f1, f2⟩ := ok.f
  have I : InstAt h1 a (instObj C td) C (some (dictOf es n)) := ⟨r1, rfl, rfl, r2⟩
  exact get_value (s := { s with heap := h1, toks := tk1 }) (dy.KB G) I (plainGet_of ok.g).1 (findObj_own ok.h f1 f2 hv) (vr_handed rv) (hQ v _ rv)
theorem attr_set {a C td : Addr} {fs : List (Str × D)} {x : Str} {v : Value} {d : D} {Q : Unit → Shared → Prop} (G : Glob X.w X.hB) (dy : Dy X ℓ σ1 h1) (ok : AttrSet X.w C x) (ha : σ1 a = some (.inst C td)) (hf : σ1 td = some (.attrs fs)) (hz : fs.length ≤ 100) (rv : VR h1 v d)
    (hQ : ∀ h2 tk2, Dy X ℓ (σ1.put td (.attrs (fput x d fs))) h2 → Kp X.fr [] σ1 h1 (σ1.put td (.attrs (fput x d fs))) h2 → TupK h1 h2 → Q () { s with heap := h2, toks := tk2 }) : wpAny (model prg X.w) X.A (setAttr (.ref a) x v) Q E { s with heap := h1, toks := tk1 } := by
  have r1 := dy.rep _ _ ha
  obtain ⟨es, n, r2, rr⟩ := dy.rep _ _ hf
  have I : InstAt h1 a (instObj C td) C (some (dictOf es n)) := ⟨r1, rfl, rfl, r2⟩
  obtain ⟨m, F, N, hm⟩ := dy.frE
  have N' : News emptyH X.env.locals h1 ((td, dictOf es n) :: allBut h1 X.env.locals td) := fun p hp => by
    rcases List.mem_cons.mp hp with rfl | hp
    · exact ⟨r2, (fun q => by have := dy.off _ (.head _); rw [← q, hf] at this; cases this), emptyH_get _⟩
    · obtain ⟨a1, a2, a3⟩ := mem_allBut.mp hp
      exact ⟨a3, a1, emptyH_get _⟩
  have hl : (getL x es).isSome = true := by
    cases q : fs.lookup x with
    | none => rw [rr.getN q]; rfl
    | some d' => obtain ⟨v', e, _⟩ := rr.get q; rw [e]; rfl
  have hlen : (putL x (PyData.keyHash X.w.params x) (.str x (tk1 + 1)) v es).length ≤ 1000 := by
    have h1 := (rr.put (x := x) (tk1 + 1) rv).length
    have h2 : ∀ fs : List (Str × D), (fput x d fs).length ≤ fs.length + 1 := by
      intro fs
      induction fs with
      | nil => simp [fput]
      | cons p r ih => obtain ⟨y, e⟩ := p; unfold fput; split <;> simp only [List.length_cons] <;> lia
    have := h2 fs
    lia
  have K0 : (KF X.w).In h1 := dy.KB G
  exact set_plain (s := { s with heap := h1, toks := tk1 }) K0 I ok.s (osa_dict (s := { s with heap := h1, toks := tk1 + 1 }) (pre := []) F N' K0 I rfl ok.p ok.t ok.h hl (fun _ h => nomatch h) (fun p hp => (mem_allBut.mp hp).2.1) (by rw [putName_dict]) rfl hlen fun h' F' N2 => by
    obtain ⟨dy', kp', t'⟩ := dy.updN hf hm F' N2 (o' := .attrs (fput x d fs)) fun t e => ⟨_, _, e, (rr.keep t).put _ (rv.keep t)⟩
    exact hQ _ _ dy' kp' t')
end
end Mine
end F_Abs11
section F_Abs12
open PySem PySem.W PySem.Spec PySem.Calls PyProof.Rows
namespace Mine
noncomputable def dput {β : Type} (k : Ky) (d : β) (es : List (Ky × β)) : List (Ky × β) := if (es.lookup k).isSome then es.map (fun x => if x.1 = k then (x.1, d) else x) else es ++ [(k, d)]
noncomputable def ddel {β : Type} (k : Ky) (es : List (Ky × β)) : List (Ky × β) := es.filter fun x => decide (x.1 ≠ k)
theorem DRows.map_put {h xs es k v d} (r : DRows h xs es) (hv : VR h v d) : DRows h (xs.map (putAt k v)) (es.map fun x => if x.1 = k then (x.1, d) else x) := by
  induction r with
  | nil => exact .nil
  | @cons k' a' v' e' xs es x _ ih =>
    rw [List.map_cons, List.map_cons]
    by_cases q : k' = k
    · simp only [putAt, q, if_true]; exact .cons hv ih
    · simp only [putAt, q, if_false]; exact .cons x ih
theorem DRows.app {h xs es ys fs} (r : DRows h xs es) (t : DRows h ys fs) : DRows h (xs ++ ys) (es ++ fs) := by
  induction r with
  | nil => exact t
  | cons x _ ih => exact .cons x ih
theorem DRows.put {h xs es k a v d} (r : DRows h xs es) (hv : VR h v d) : DRows h (storedH xs k a v) (dput k d es) := by
  unfold storedH dput
  have e := r.isSome k
  by_cases q : (es.lookup k).isSome = true
  · rw [if_pos (e.trans q), if_pos q]; exact r.map_put hv
  · rw [if_neg (fun z => q (e.symm.trans z)), if_neg q]; exact r.app (.cons hv .nil)
theorem DRows.del {h xs es k} (r : DRows h xs es) : DRows h (xs.filter fun x => decide (x.1 ≠ k)) (ddel k es) := by
  unfold ddel
  induction r with
  | nil => exact .nil
  | @cons k' a' v' e' xs es x _ ih =>
    rw [List.filter_cons, List.filter_cons]
    by_cases q : k' = k
    · simpa [q] using ih
    · simp only [ne_eq, q, not_false_eq_true, decide_true, if_true]; exact .cons x ih
noncomputable def opSetItem (o i d : D) (σ : St) (N : St → Prop) : Prop :=
  match o, i with
  | .ref a, .int k => ∃ xs, σ a = some (.list xs) ∧ (0 ≤ k ∧ k < 2 ^ 63 ∧ k < xs.length) ∧ N (σ.put a (.list (xs.set k.toNat d)))
  | .ref a, .tup ks => ∃ ky es, σ a = some (.dict es) ∧ D.tup ks = kyD ky ∧ es.length ≤ 1000 ∧ N (σ.put a (.dict (dput ky d es)))
  | _, _ => False
section
variable {X : Cx} {ℓ : Lc} {σ σ1 : St} {s : Shared} {h1 : Heap} {tk1 : Nat} {N : St → Prop} {E : Value → Shared → Prop}
theorem opSetItem_ok {o i d : D} {vo vi v : Value} {Q : Unit → Shared → Prop} (dy : Dy X ℓ σ1 h1) (hu : X.A.units + 60 < cLine) (ro : VR h1 vo o) (ri : VR h1 vi i) (rd : VR h1 v d) (hp : opSetItem o i d σ1 N)
    (hQ : ∀ σ2 h2 tk2, Dy X ℓ σ2 h2 → Kp X.fr [] σ1 h1 σ2 h2 → N σ2 → Q () { s with heap := h2, toks := tk2 }) :
    wpAny (model prg X.w) X.A (setItem vo vi v) Q E { s with heap := h1, toks := tk1 } := by
  cases o with
  | ref a => cases i with
    | int k =>
      obtain ⟨xs, ha, ⟨k0, k1, k2⟩, hq⟩ := hp
      obtain ⟨t, rfl⟩ := ri.int_inv
      cases ro.ref_inv
      obtain ⟨o, vs, n, g1, g2, g3, g4⟩ := dy.rep _ _ ha
      refine wpAny_setItem_list (s := { s with heap := h1, toks := tk1 }) ⟨o, g1, g2, n, g3⟩ k0 k1 (by rw [← Array.length_toList, g4.length]; exact k2) fun h' hl hs => ?_
      obtain ⟨dy', kp', t'⟩ := dy.upd ha (sameBut_turn hs) (o' := .list (xs.set k.toNat d)) fun t => by
        obtain ⟨o', e1, e2, n', e3⟩ := hl
        exact ⟨o', _, n', e1, e2, e3, by rw [Array.toList_setIfInBounds]; exact (g4.keep t).set _ (rd.keep t)⟩
      exact hQ _ h' tk1 dy' kp' hq
    | tup ks =>
      obtain ⟨ky, es, ha, e, hz, hq⟩ := hp
      rw [e] at ri
      obtain ⟨ak, rfl, hk⟩ := vr_ky X.w ri
      cases ro.ref_inv
      obtain ⟨xs, hx, rx⟩ := dy.rep _ _ ha
      refine wpAny_setItem_heap (s := { s with heap := h1, toks := tk1 }) (knd := kyK prg X.w) (show X.A.units + 1 + 20 < cLine by omega) hk hx (fun h' hd hs => ?_) (by rw [rx.length, sizeLine_eq]; lia)
      obtain ⟨dy', kp', t'⟩ := dy.upd ha (sameBut_turn hs) (o' := .dict (dput ky d es)) fun t => ⟨_, hd, (rx.keep t).put (rd.keep t)⟩
      exact hQ _ h' _ dy' kp' hq
    | _ => exact hp.elim
  | _ => exact hp.elim
end
noncomputable def pAttr (C : Addr) (x : Str) (P : EvP) : EvP := fun ℓ σ Q E => P ℓ σ (fun o σ1 => match o with
  | .ref a => ∃ td fs d, σ1 a = some (.inst C td) ∧ σ1 td = some (.attrs fs) ∧ fs.lookup x = some d ∧ Q d σ1
  | _ => False) E
noncomputable def sAsgA (C : Addr) (x : Str) (P Po : EvP) : SP := fun ℓ σ N R E => P ℓ σ (fun d σ1 => Po ℓ σ1 (fun o σ2 => match o with
  | .ref a => ∃ td fs, σ2 a = some (.inst C td) ∧ σ2 td = some (.attrs fs) ∧ fs.length ≤ 100 ∧ N ℓ (σ2.put td (.attrs (fput x d fs)))
  | _ => False) E) E
noncomputable def sAsgI (P Po Pi : EvP) : SP := fun ℓ σ N R E => P ℓ σ (fun d σ1 => Po ℓ σ1 (fun o σ2 => Pi ℓ σ2 (fun i σ3 => opSetItem o i d σ3 fun σ4 => N ℓ σ4) E) E) E
section
variable {nk : Str → Option NK} {n c : Nat}
theorem SndE.attr {v x pos C P} (H : SndE nk n c v P) (hok : ∀ w, AttrOk w C x) (he : ∀ env, eval (.Attribute v x pos) env = (do
      let o ← eval v env
      standAt pos.atName
      let r ← holding [o] (getAttr o x true)
      letTemporaryGo v o r
      pure r)) : SndE nk n c (.Attribute v x pos) (pAttr C x P) := fun X ℓ σ s Q E fm dy hp => by
  refine Attribute_any_ (H.run (h1 := s.heap) (tk1 := s.toks) fm dy .refl hp fun va a σ1 h1 tk1 ra dy1 _ kp1 t1 hp1 => ?_) (he _)
  cases a with
  | ref a =>
    obtain ⟨td, fs, d, ha, hf, hd, hq⟩ := hp1
    cases ra.ref_inv
    exact attr_get fm.G dy1 (hok _) ha hf hd fun v tk2 rv => PE.mk rv dy1 kp1 hq
  | _ => exact hp1.elim
theorem SndS.asgA {x e o pos pos' C P Po} (H : SndE nk n c e P) (Ho : SndE nk n c o Po) (hok : ∀ w, AttrSet w C x) (hs : ∀ env, swapsWith e (some (.Attribute o x pos')) pos.line env = pure false) : SndS nk n c (.Assign [.Attribute o x pos'] e pos) (sAsgA C x P Po) := fun X ℓ σ s N R E fs dy hp => by
  refine plainObj_wpAny_Assign_Attribute (H.run (h1 := s.heap) (tk1 := s.toks) fs.toFm dy .refl hp fun v d σ1 h1 tk1 rd dy1 _ kp1 t1 hp1 => ?_) (hs _)
  refine Ho.run fs.toFm dy1 kp1 hp1 fun vo o σ2 h2 tk2 ro dy2 _ kp2 t2 hp2 => ?_
  cases o with
  | ref a =>
    obtain ⟨td, fs', ha, hf, hz, hq⟩ := hp2
    cases ro.ref_inv
    exact attr_set fs.G dy2 (hok _) ha hf hz (rd.keep t2) fun h3 tk3 dy3 kp3 t3 => PS.next dy3 (kp2.trans (kp3.more nilSub)) hq
  | _ => exact hp2.elim
theorem SndS.asgI {e o i pos pos' P Po Pi} (H : SndE nk n c e P) (Ho : SndE nk n c o Po) (Hi : SndE nk n c i Pi) (hs : ∀ env, swapsWith e (some (.Subscript o i pos')) pos.line env = pure false) : SndS nk n c (.Assign [.Subscript o i pos'] e pos) (sAsgI P Po Pi) := fun X ℓ σ s N R E fs dy hp => by
  refine wpAny_Assign_Subscript (H.run (h1 := s.heap) (tk1 := s.toks) fs.toFm dy .refl hp fun v d σ1 h1 tk1 rd dy1 _ kp1 t1 hp1 => ?_) (hs _)
  refine Ho.run fs.toFm dy1 kp1 hp1 fun vo o σ2 h2 tk2 ro dy2 _ kp2 t2 hp2 => ?_
  refine Hi.run fs.toFm dy2 kp2 hp2 fun vi i σ3 h3 tk3 ri dy3 _ kp3 t3 hp3 => ?_
  exact opSetItem_ok dy3 fs.u60 (ro.keep t3) ri ((rd.keep t2).keep t3) hp3 fun σ4 h4 tk4 dy4 kp4 hq => PS.next dy4 (kp3.trans (kp4.more nilSub)) hq
end
end Mine
end F_Abs12
section F_Abs13
open PySem PySem.W PySem.Spec PySem.Calls PyProof.Rows
namespace Mine
noncomputable abbrev FP := List D → St → (D → St → Prop) → (Addr → St → Prop) → Prop
noncomputable def SndF (n : Nat) (f : Value) (P : FP) : Prop :=
  ∀ (nk : Str → Option NK) (c : Nat) (X : Cx) (ℓ : Lc) (σ : St) (s : Shared) (Q : D → St → Prop) (E : Addr → St → Prop) (vs : List Value) (ds : List D), Fm nk n c X → Dy X ℓ σ s.heap → VRs s.heap vs ds → P ds σ Q E →
    wpAny (model prg X.w) X.A (call f vs) (PE X ℓ σ s Q) (PX X [] σ s E) s
noncomputable def GName (x : Str) (v : Value) : Prop := ∀ w, nsIn (KF w) mainGlobals x = some (some v) ∨ (nsIn (KF w) mainGlobals x = some none ∧ bootBuiltins x = some v ∧ x ≠ "__name__")
noncomputable def KOk (f : Value) : Prop := ∀ (w : World) (h : Heap), (KF w).In h → ∃ k, (k = Keeper.frame ∨ k = Keeper.machine ∨ k = Keeper.boundFrame) ∧ Looks (model prg w) h (keeperOf f) k
theorem KOk.bi (id : String) : KOk (.builtin id) := fun w h _ => ⟨.machine, .inr (.inl rfl), .of_pure rfl⟩
theorem KOk.ty (T : String) : KOk (.type T) := fun w h _ => ⟨.machine, .inr (.inl rfl), .of_pure rfl⟩
theorem KOk.of {f : Value} (h : ∀ w, keepIn (KF w) f = true) : KOk f := fun w h' X => keeps_K (h w) h' X
theorem evalArgs_of {M : Model} {A : Around} {E : Value → Shared → Prop} {s : Shared} {f : Value} {l : List (Bool × Sem Value)} {Q : Args → Shared → Prop} (hp : l.any (·.1) = false)
    (h : wpAny M A (spliced l) (fun vs s' => Q ⟨vs, []⟩ s') E s) : wpAny M A (evalArgs f true l []) Q E s := by
  cases l with
  | nil =>
    unfold evalArgs
    show wpAny M A (spliced [] >>= _) Q E s
    refine wpAny_bind (wpAny_mono h (fun vs s' h' => wpAny_bind (wpAny_pure ?_)) fun _ _ e => e)
    refine wpAny_holding ?_
    exact wpAny_bind (wpAny_pure (wpAny_bind (wpAny_pure (wpAny_pure h'))))
  | cons p rest =>
    obtain ⟨b, x⟩ := p
    simp only [List.any_cons, Bool.or_eq_false_iff] at hp
    obtain ⟨rfl, _⟩ := hp
    exact Calls.evalArgs_plain h
section
variable {nk : Str → Option NK} {n c : Nat} {X : Cx} {ℓ : Lc} {σ σ1 : St} {s : Shared} {h1 : Heap} {tk1 : Nat} {E : Addr → St → Prop} {xs : List Addr}
theorem glob_ok {x v pos} {Q : Value → Shared → Prop} {E : Value → Shared → Prop} (fm : Fm nk n c X) (dy : Dy X ℓ σ1 h1) (hx : nk x = some .glb) (hg : GName x v) (hd : (x == ("__debug__" : Str)) = false) (h : Q v { s with heap := h1, toks := tk1 }) :
    wpAny (model prg X.w) X.A (eval (.Name x pos) X.env) Q E { s with heap := h1, toks := tk1 } := by
  obtain ⟨loose, mean, mg, mb, T⟩ := fm.G.T
  have hs := dy.stays
  have Tg : h1.Ns X.env.globals mg := fm.globals ▸ T.g.keeps hs
  rcases hg X.w with e | ⟨e, eb, en⟩
  · exact Name_function_global fm.kind (fm.names x _ hx) (loadGlobal_global (s := { s with heap := h1, toks := tk1 }) Tg (mg_of fm.G.K T.g e) h) hd
  · exact Name_function_global fm.kind (fm.names x _ hx) (loadGlobal_builtin (s := { s with heap := h1, toks := tk1 }) Tg (mg_none_of fm.G.K T.g e) (fm.builtins ▸ T.b.keeps hs) ((T.builtins x en).trans eb) h) hd
theorem SndF.run {f P vs ds} (H : SndF n f P) (fm : Fm nk n c X) (dy : Dy X ℓ σ1 h1) (kp : Kp X.fr xs σ s.heap σ1 h1) (rs : VRs h1 vs ds) {Q1 : D → St → Prop} {R : Value → Shared → Prop} (hp : P ds σ1 Q1 E)
    (k : ∀ v d σ2 h2 tk2, VR h2 v d → Dy X ℓ σ2 h2 → Kp X.fr [] σ1 h1 σ2 h2 → Kp X.fr xs σ s.heap σ2 h2 → TupK h1 h2 → Q1 d σ2 → R v { s with heap := h2, toks := tk2 }) :
    wpAny (model prg X.w) X.A (call f vs) R (PX X xs σ s E) { s with heap := h1, toks := tk1 } := by
  refine wpAny_mono (H nk c X ℓ σ1 { s with heap := h1, toks := tk1 } Q1 E vs ds fm dy rs hp) (fun v s' p => ?_) fun v s' p => (p.more fun a q => nomatch q).lift kp
  obtain ⟨d, σ', h', tk', rfl, vr, dy', kp', q⟩ := p
  exact k v d σ' h' tk' vr dy' kp' (kp.trans (kp'.more fun a q => nomatch q)) (Kp.tupK dy kp' fun _ q => nomatch q) q
theorem callW {f : Value} {first : List Value} {fds : List D} {args : List Expr} {pos Ps PF} {Q : D → St → Prop} (Hs : SndEs nk n c pos args Ps) (hF : SndF n f PF) (hk : ∀ h, (KF X.w).In h → ∃ k, (k = Keeper.frame ∨ k = Keeper.machine ∨ k = Keeper.boundFrame) ∧ Looks (model prg X.w) h (keeperOf f) k) (hpl : ∀ env, (backTo pos (starEach args env)).any (·.1) = false)
    (fm : Fm nk n c X) (dy : Dy X ℓ σ1 h1) (kp : Kp X.fr [] σ s.heap σ1 h1) (rf : VRs h1 first fds) (hp : Ps ℓ σ1 (fun ds σ2 => PF (fds ++ ds) σ2 Q E) E) :
    wpAny (model prg X.w) X.A (callWith pos f first (backTo pos (starEach args X.env)) []) (PE X ℓ σ s Q) (PX X [] σ s E) { s with heap := h1, toks := tk1 } := by
  refine callWith_of (P := (KF X.w).In) (by rw [hpl]; rfl) hk (evalArgs_of (hpl _) (Hs.run fm dy kp hp fun vs ds σ2 h2 tk2 rs dy2 _ kp2 t2 hp2 => ?_))
  refine ⟨dy2.KB fm.G, hF.run fm dy2 kp2 ((rf.keep t2).append rs) hp2 fun v d σ3 h3 tk3 rv dy3 _ kp3 t3 hp3 => PE.mk rv dy3 kp3 hp3⟩
end
noncomputable def pCall (PF : FP) (Ps : EvsP) : EvP := fun ℓ σ Q E => Ps ℓ σ (fun ds σ1 => PF ds σ1 Q E) E
section
variable {nk : Str → Option NK} {n c : Nat}
theorem SndE.call {x v p pos args Ps PF} (hx : nk x = some .glb) (hg : GName x v) (hd : (x == ("__debug__" : Str)) = false) (hF : SndF n v PF) (hk : KOk v) (Hs : SndEs nk n c pos args Ps) (hpl : ∀ env, (backTo pos (starEach args env)).any (·.1) = false) :
    SndE nk n c (.Call (.Name x p) args [] pos) (pCall PF Ps) := fun X ℓ σ s Q E fm dy hp => by
  refine wpAny_Call_NameR (glob_ok (s := s) (h1 := s.heap) (tk1 := s.toks) fm dy hx hg hd ?_)
  exact callW (first := []) (fds := []) Hs hF (hk X.w) hpl fm dy .refl .nil hp
end
end Mine
end F_Abs13
section F_Abs14
open PySem PySem.W PySem.Spec PySem.Calls PyProof.Rows
namespace Mine
structure Wd (X : Cx) (es : List Addr) (h h' : Heap) : Prop where
  keep : ∀ a o, h.get? a = some o → a ∉ X.fr → a ∉ es → h'.get? a = some o
  ns : ∀ a m, a ∈ X.fr → h.Ns a m → h'.Ns a m
  live : ∀ a o, h.get? a = some o → a ∉ es → ∃ o', h'.get? a = some o'
structure EsOk (X : Cx) (σ : St) (h : Heap) (es : List Addr) : Prop where
  at_ : ∀ a ∈ es, σ a = none ∧ X.hB.get? a = none ∧ ∃ o, h.get? a = some o ∧ ¬ (o.cls = .type "tuple" ∧ isSeqO o)
theorem notSeq_fields {o : Obj} {vs} (hd : o.data = .fields vs) : ¬ (o.cls = .type "tuple" ∧ isSeqO o) := fun ⟨_, _, _, e⟩ => by rw [hd] at e; cases e
theorem Wd.tupK {X ℓ σ es h h'} (y : Dy X ℓ σ h) (w : Wd X es h h') (k : EsOk X σ h es) : TupK h h' := by
  intro b o hc hs e
  refine w.keep b o e (fun q => ?_) fun q => ?_
  · obtain ⟨m, n, _⟩ := y.frD q; exact ns_notSeq n e hs
  · obtain ⟨_, _, o', e', hd⟩ := k.at_ b q
    rw [e] at e'; cases e'
    exact hd ⟨hc, hs⟩
theorem Wd.dy {X ℓ σ es h h'} (y : Dy X ℓ σ h) (w : Wd X es h h') (k : EsOk X σ h es) : Dy X ℓ σ h' where
  stays := fun b o e => w.keep b o (y.stays b o e) (fun q => by obtain ⟨_, _, n⟩ := y.frD q; rw [e] at n; cases n) fun q => by
    obtain ⟨_, n, _⟩ := k.at_ b q; rw [e] at n; cases n
  two := y.two
  frames := fun env he => by
    obtain ⟨hk, L, m, hf, hn, n⟩ := y.frames env he
    exact ⟨hk, L, m, hf, hn, w.ns L m (.tail _ (List.mem_filterMap.mpr ⟨env, he, hf⟩)) n⟩
  off := y.off
  offL := y.offL
  own := by
    obtain ⟨m, n, q⟩ := y.own
    refine ⟨m, w.ns _ m (.head _) n, fun z d e => ?_⟩
    obtain ⟨v, a, b⟩ := q z d e
    exact ⟨v, a, b.keep (w.tupK y k)⟩
  cel := y.cel
  low := y.low
  rep := fun a o e => (y.rep a o e).keep (w.tupK y k) fun ob e' => w.keep a ob e' (fun q => by rw [y.off a q] at e; cases e) fun q => by
    obtain ⟨n, _⟩ := k.at_ a q; rw [e] at n; cases n
theorem Wd.kp {X σ es h h' xs σ0 h0} (w : Wd X es h h') (kp : Kp X.fr xs σ0 h0 σ h) (k : ∀ a ∈ es, h0.get? a = none) : Kp X.fr xs σ0 h0 σ h' where
  keep := fun a o e n h1 h2 => w.keep a o (kp.keep a o e n h1 h2) h1 fun q => by rw [k a q] at e; cases e
  ns := fun a m hn n h1 h2 => w.ns a m h1 (kp.ns a m hn n h1 h2)
  live := fun a o e => by obtain ⟨o', e'⟩ := kp.live a o e; exact w.live a o' e' fun q => by rw [k a q] at e; cases e
  new := kp.new
  mono := kp.mono
theorem Wd.push {X : Cx} {h : Heap} (o : Obj) : Wd X [] h (h.push o) := ⟨fun _ _ e _ _ => Heap.get?_push_of_some _ e, fun _ _ _ n => n.push _, fun _ ob e _ => ⟨ob, Heap.get?_push_of_some _ e⟩⟩
theorem Wd.upd {X : Cx} {h : Heap} {a : Addr} {f : Obj → Obj} {o : Obj} (e : h.get? a = some o) (hf : (f o).isFreed = false) (hn : a ∉ X.fr) : Wd X [a] h (h.update a f) := by
  have k : ∀ b, b ≠ a → (h.update a f).get? b = h.get? b := fun b n => Heap.get?_update_other h f (Ne.symm n)
  refine ⟨fun b ob e' _ n => (k b fun q => n (q ▸ .head _)).trans e', fun b m q n => n.at' fun ob e' => (k b fun z => hn (z ▸ q)).trans e', fun b ob e' _ => ?_⟩
  by_cases q : b = a
  · subst q; exact ⟨_, Heap.get?_update_self f e hf⟩
  · exact ⟨ob, (k b q).trans e'⟩
theorem ns_slots {h h' : Heap} {a m} (n : h.Ns a m) (e : ∀ o, h.get? a = some o → ∃ sl, h'.get? a = some { o with slots := sl }) : h'.Ns a m := by
  obtain ⟨o, es, ep, ho, hd, r⟩ := n
  obtain ⟨sl, hs⟩ := e o ho
  exact ⟨_, es, ep, hs, hd, r⟩
theorem Wd.slots {X : Cx} {h h' : Heap} {S : List Addr} (x : Heap.SlotsOnly S h h') (s : ∀ a ∈ S, a ∈ X.fr) : Wd X [] h h' :=
  ⟨fun a o e n _ => (x.2.1 a fun q => n (s a q)).trans e, fun a m _ n => ns_slots n fun o e => x.2.2 a o e, fun a o e _ => by obtain ⟨sl, e'⟩ := x.2.2 a o e; exact ⟨_, e'⟩⟩
inductive ExcNH (hB h0 h : Heap) (σ : St) (C e : Addr) : Prop
  | in_ (oe : Obj) (vs : Array Value) (_ : h.get? e = some oe) (_ : oe.cls = .ref C) (_ : oe.data = .fields vs) (_ : 1 < vs.size) (_ : New h0 e) (_ : σ e = none ∧ hB.get? e = none)
    (_ : ∃ T oT ts, vs[1]? = some (.ref T) ∧ T ≠ e ∧ h.get? T = some oT ∧ oT.data = .fields ts ∧ 3 < ts.size ∧ New h0 T ∧ σ T = none ∧ hB.get? T = none) : ExcNH hB h0 h σ C e
noncomputable abbrev ExcN (X : Cx) (h0 h : Heap) (σ : St) (C e : Addr) : Prop := ExcNH X.hB h0 h σ C e
theorem ExcN.at {X h0 h σ C e} (x : ExcN X h0 h σ C e) : ExcAt X h0 h σ C e := by
  obtain ⟨oe, vs, a1, a2, a3, a4, a5, a6, a7⟩ := x
  exact ⟨oe, vs, a1, a2, a3, a4, a5, a6, .inr a7⟩
theorem isFreed_fields {o : Obj} {vs f} (h : o.data = .fields vs) : (Obj.mapFields f o).isFreed = false := Obj.isFreed_of_fields (Obj.data_mapFields h f)
theorem IsPlace.five {pl : List Value} (h : IsPlace pl) (a b c d e : Value) : 3 < ([a, b, c, d, e] ++ (if pl.isEmpty then List.replicate 6 Value.none else pl)).toArray.size := by
  simp only [List.size_toArray, List.length_append, List.length_cons, List.length_nil]; lia
section
variable {nk : Str → Option NK} {n c : Nat} {X : Cx} {ℓ : Lc} {σ σ0 : St} {s : Shared} {h0 h1 : Heap} {tk1 : Nat} {xs : List Addr} {A : Around} {E : Value → Shared → Prop} {C e : Addr}
theorem notFr {X ℓ σ h} (dy : Dy X ℓ σ h) {a o vs} (ho : h.get? a = some o) (hd : o.data = .fields vs) : a ∉ X.fr := fun q => by
  obtain ⟨m, ⟨o', es, ep, ho', hd', _⟩, _⟩ := dy.frD q
  rw [ho] at ho'; cases ho'
  rw [hd] at hd'; cases hd'
theorem entry_ok {head : Value} {hadNext : Bool} {oe : Obj} {vs : Array Value} {L : Addr} {Q : Unit → Shared → Prop} (fm : Fm nk n c X) (hA : A.frames = some X.frs) (hL : X.env.frame = some L) (dy : Dy X ℓ σ h1) (kp : Kp X.fr xs σ0 h0 σ h1)
    (he : h1.get? e = some oe) (hc : oe.cls = .ref C) (hd : oe.data = .fields vs) (hz : 1 < vs.size) (hn : New h0 e) (hs : σ e = none ∧ X.hB.get? e = none)
    (hQ : ∀ h2 tk2, Dy X ℓ σ h2 → Kp X.fr xs σ0 h0 σ h2 → ExcN X h0 h2 σ C e → Q () { s with heap := h2, toks := tk2 }) :
    wpAny (model prg X.w) A (do let a ← PySem.frameOf X.env; let pl ← entryPlaceOf L hadNext; let b ← EntryCells.newEntry head a .none (rawInt L) .none pl; setField (.ref e) 1 b) Q E { s with heap := h1, toks := tk1 } := by
  obtain ⟨fe, out, L', hf, hfe, henv⟩ := fm.fr
  rw [hL] at henv; cases henv
  have e1 : PySem.frameOf X.env = PySem.frameOf fe := by unfold PySem.frameOf; rw [hL, ← hfe]
  rw [e1]
  refine wpAny_bind (wpAny_frameOf_fun (s := { s with heap := h1, toks := tk1 }) (base := X.hB) (outer := out) (hA.trans (by rw [hf])) (by rw [← hf]; exact dy.frames.fun) hfe fun h2 hs2 => ?_)
  have w2 : Wd X [] h1 h2 := Wd.slots hs2 fun a ha => .tail _ (by rw [hf]; exact ha)
  have k0 : ∀ {σ h}, EsOk X σ h [] := fun {σ h} => ⟨fun _ q => nomatch q⟩
  have dy2 := w2.dy dy k0
  have kp2 := w2.kp kp fun _ q => nomatch q
  have he2 : h2.get? e = some oe := w2.keep e oe he (notFr dy he hd) fun q => nomatch q
  refine wpAny_bind (wpAny_entryPlaceOf fun pl hpl => ?_)
  unfold EntryCells.newEntry newFields
  refine wpAny_bind (wpAny_newObj_type ?_ (hpl.sizeOk5 _ _ _ _ _))
  have hT := IsPlace.five hpl head (.ref L) .none (rawInt L) .none
  generalize hts : ([head, .ref L, .none, rawInt L, .none] ++ (if pl.isEmpty then List.replicate 6 Value.none else pl)).toArray = ts at hT ⊢
  have dyP := (Wd.push (X := X) (h := h2) { cls := .type "traceback", dict := none, data := .fields ts }).dy dy2 k0
  have kpP := (Wd.push (X := X) (h := h2) { cls := .type "traceback", dict := none, data := .fields ts }).kp kp2 fun _ q => nomatch q
  have heP : (h2.push { cls := .type "traceback", dict := none, data := .fields ts }).get? e = some oe := Heap.get?_push_of_some _ he2
  have hTP : (h2.push { cls := .type "traceback", dict := none, data := .fields ts }).get? h2.objs.size = some { cls := .type "traceback", dict := none, data := .fields ts } := Heap.get?_push_size _ rfl
  have hnew : New h2 h2.objs.size := dy2.newA
  have hTe : h2.objs.size ≠ e := Nat.ne_of_gt (Heap.lt_size he2)
  generalize hH : h2.push { cls := .type "traceback", dict := none, data := .fields ts } = h3 at *
  refine wpAny_setField (s := { s with heap := h3, toks := tk1 }) heP hd hz ?_
  have w4 : Wd X [e] h3 (h3.update e (Obj.mapFields (·.setIfInBounds 1 (Value.ref h2.objs.size)))) := Wd.upd heP (isFreed_fields hd) (notFr dyP heP hd)
  have k4 : EsOk X σ h3 [e] := ⟨fun a ha => by rw [List.mem_singleton.mp ha]; exact ⟨hs.1, hs.2, oe, heP, notSeq_fields hd⟩⟩
  refine hQ _ _ (w4.dy dyP k4) (w4.kp kpP fun a ha => by rw [List.mem_singleton.mp ha]; exact hn.1) ?_
  refine ⟨_, _, Heap.get?_update_self _ heP (isFreed_fields hd), by rw [Obj.cls_mapFields]; exact hc, Obj.data_mapFields hd _, by simpa using hz, hn, hs, h2.objs.size, _, ts, by simp [hz], hTe,
    (Heap.get?_update_other _ _ (Ne.symm hTe)).trans hTP, rfl, hT, kp2.back hnew, dy2.fresh hnew, ?_⟩
  cases q : X.hB.get? h2.objs.size with
  | none => rfl
  | some o => have := dy2.stays _ _ q; rw [hnew.1] at this; cases this
theorem note_ok {Q : Unit → Shared → Prop} (fm : Fm nk n c X) (hA : A.frames = some X.frs) (dy : Dy X ℓ σ h1) (kp : Kp X.fr xs σ0 h0 σ h1) (ex : ExcAt X h0 h1 σ C e)
    (hQ : ∀ h2 tk2, Dy X ℓ σ h2 → Kp X.fr xs σ0 h0 σ h2 → ExcN X h0 h2 σ C e → Q () { s with heap := h2, toks := tk2 }) :
    wpAny (model prg X.w) A (noteFrame (.ref e) X.env) Q E { s with heap := h1, toks := tk1 } := by
  obtain ⟨fe, out, L, hf, hfe, hL⟩ := fm.fr
  obtain ⟨oe, vs, he, hc, hd, hz, hn, hs, hv⟩ := ex
  unfold noteFrame
  simp only [hL]
  rcases hv with hv | ⟨T, oT, ts, hv, hTe, hT, hdT, hzT, hnT, hsT, hbT⟩
  · refine wpAny_bind (wpAny_field he hd hv ?_)
    rw [if_neg (by decide)]
    exact entry_ok fm hA hL dy kp he hc hd hz hn hs hQ
  · refine wpAny_bind (wpAny_field he hd hv ?_)
    rw [if_pos (show (Value.ref T != Value.none) = true from by simp)]
    refine wpAny_bind (wpAny_field hT hdT (Array.getElem?_eq_getElem hzT) ?_)
    by_cases q : (ts[3] == rawInt L) = true
    · rw [if_pos q]
      exact wpAny_pure (hQ h1 tk1 dy kp ⟨oe, vs, he, hc, hd, hz, hn, hs, T, oT, ts, hv, hTe, hT, hdT, hzT, hnT, hsT, hbT⟩)
    · rw [if_neg q]
      refine wpAny_bind (wpAny_setField (s := { s with heap := h1, toks := tk1 }) hT hdT hzT ?_)
      have w2 : Wd X [T] h1 (h1.update T (Obj.mapFields (·.setIfInBounds 3 Value.none))) := Wd.upd hT (isFreed_fields hdT) (notFr dy hT hdT)
      have k2 : EsOk X σ h1 [T] := ⟨fun a ha => by rw [List.mem_singleton.mp ha]; exact ⟨hsT, hbT, oT, hT, notSeq_fields hdT⟩⟩
      exact entry_ok fm hA hL (w2.dy dy k2) (w2.kp kp fun a ha => by rw [List.mem_singleton.mp ha]; exact hnT.1) ((Heap.get?_update_other _ _ hTe).trans he) hc hd hz hn hs hQ
theorem flight_ok {f : Option Addr} {Q : Unit → Shared → Prop} (dy : Dy X ℓ σ h1) (kp : Kp X.fr xs σ0 h0 σ h1) (ex : ExcN X h0 h1 σ C e)
    (hQ : ∀ h2 tk2, Dy X ℓ σ h2 → Kp X.fr xs σ0 h0 σ h2 → ExcN X h0 h2 σ C e → Q () { s with heap := h2, toks := tk2 }) :
    wpAny (model prg X.w) A (setFlight (.ref e) f) Q E { s with heap := h1, toks := tk1 } := by
  obtain ⟨oe, vs, he, hc, hd, hz, hn, hs, T, oT, ts, hv, hTe, hT, hdT, hzT, hnT, hsT, hbT⟩ := ex
  unfold setFlight
  refine wpAny_bind (wpAny_field he hd hv ?_)
  rw [if_pos (show (Value.ref T != Value.none) = true from by simp)]
  refine wpAny_setField (s := { s with heap := h1, toks := tk1 }) hT hdT hzT ?_
  have w2 : Wd X [T] h1 (h1.update T (Obj.mapFields (·.setIfInBounds 3 (f.elim .none fun f => rawInt f)))) := Wd.upd hT (isFreed_fields hdT) (notFr dy hT hdT)
  have k2 : EsOk X σ h1 [T] := ⟨fun a ha => by rw [List.mem_singleton.mp ha]; exact ⟨hsT, hbT, oT, hT, notSeq_fields hdT⟩⟩
  exact hQ _ _ (w2.dy dy k2) (w2.kp kp fun a ha => by rw [List.mem_singleton.mp ha]; exact hnT.1)
    ⟨oe, vs, (Heap.get?_update_other _ _ hTe).trans he, hc, hd, hz, hn, hs, T, _, _, hv, hTe, Heap.get?_update_self _ hT (isFreed_fields hdT), Obj.data_mapFields hdT _, by simpa using hzT, hnT, hsT, hbT⟩
theorem leaving_ok {Q : Unit → Shared → Prop} (fm : Fm nk n c X) (hA : A.frames = some X.frs) (dy : Dy X ℓ σ h1) (kp : Kp X.fr xs σ0 h0 σ h1) (ex : ExcAt X h0 h1 σ C e)
    (hQ : ∀ h2 tk2, Dy X ℓ σ h2 → Kp X.fr xs σ0 h0 σ h2 → ExcN X h0 h2 σ C e → Q () { s with heap := h2, toks := tk2 }) :
    wpAny (model prg X.w) A (leaving X.env (.ref e)) Q E { s with heap := h1, toks := tk1 } := by
  unfold leaving
  exact wpAny_bind (note_ok fm hA dy kp ex fun h2 tk2 dy2 kp2 ex2 => flight_ok dy2 kp2 ex2 hQ)
theorem back_ok {E : Value → Shared → Prop} {env : Env} (dy : Dy X ℓ σ h1) (kp : Kp X.fr xs σ0 h0 σ h1) (ex : ExcN X h0 h1 σ C e)
    (hE : ∀ h2 tk2, Dy X ℓ σ h2 → Kp X.fr xs σ0 h0 σ h2 → ExcN X h0 h2 σ C e → E (.ref e) { s with heap := h2, toks := tk2 }) :
    cameBackBy (model prg X.w) A env E (.ref e) { s with heap := h1, toks := tk1 } := by
  obtain ⟨oe, vs, he, hc, hd, hz, hn, hs, T, oT, ts, hv, r⟩ := id ex
  unfold cameBackBy
  refine wpAny_bind (wpAny_field he hd hv ?_)
  rw [if_neg (by simp)]
  exact flight_ok dy kp ex hE
theorem passOn_ok {α : Type} {Q : α → Shared → Prop} {E : Value → Shared → Prop} {env : Env} {what : String} (dy : Dy X ℓ σ h1) (kp : Kp X.fr xs σ0 h0 σ h1) (ex : ExcN X h0 h1 σ C e)
    (hE : ∀ h2 tk2, Dy X ℓ σ h2 → Kp X.fr xs σ0 h0 σ h2 → ExcN X h0 h2 σ C e → E (.ref e) { s with heap := h2, toks := tk2 }) :
    wpAny (model prg X.w) A (PySem.passOn what (.ref e) env : Sem α) Q E { s with heap := h1, toks := tk1 } := by
  obtain ⟨oe, vs, he, hc, hd, hz, hn, hs, T, oT, ts, hv, r⟩ := id ex
  unfold PySem.passOn
  refine wpAny_bind (wpAny_field he hd hv ?_)
  rw [if_neg (by simp)]
  exact wpAny_bind (flight_ok dy kp ex fun h2 tk2 d k x => wpAny_throw (hE h2 tk2 d k x))
end
end Mine
end F_Abs14
section F_Abs15
open PySem PySem.W PySem.Spec PySem.Calls PyProof.Rows
namespace Mine
noncomputable def bindLD (k : Str → Option NameKind) : List (Str × D) → (Str → Option D) → Str → Option D
  | [], m => m
  | (n, d) :: r, m => bindLD k r (if k n = some .local then fun y => if y = n then some d else m y else m)
noncomputable def bindCD (k : Str → Option NameKind) : List (Str × D) → (Str → Option D) → Str → Option D
  | [], m => m
  | (n, d) :: r, m => bindCD k r (if k n = some .local then m else fun y => if y = n then some d else m y)
noncomputable def RelM (h : Heap) (m : Str → Option Value) (d : Str → Option D) : Prop := ∀ x, match d x with | none => m x = none | some e => ∃ v, m x = some v ∧ VR h v e
inductive BRel (h : Heap) : List (Str × Value) → List (Str × D) → Prop
  | nil : BRel h [] []
  | cons {x v d vs ds} : VR h v d → BRel h vs ds → BRel h ((x, v) :: vs) ((x, d) :: ds)
theorem RelM.ite {h m d} (r : RelM h m d) {n v e} (rv : VR h v e) : RelM h (fun y => if y = n then some v else m y) (fun y => if y = n then some e else d y) := fun x => by
  by_cases q : x = n
  · simp only [q, if_true]; exact ⟨v, rfl, rv⟩
  · simp only [q, if_false]; exact r x
theorem BRel.loc {h vb b} (r : BRel h vb b) (k : Str → Option NameKind) : ∀ {m d}, RelM h m d → RelM h (bindL k vb m) (bindLD k b d) := by
  induction r with
  | nil => exact fun r => r
  | @cons x v e vs ds rv _ ih =>
    intro m d r0
    unfold bindL bindLD
    by_cases q : k x = some .local
    · rw [if_pos q, if_pos q]; exact ih (r0.ite rv)
    · rw [if_neg q, if_neg q]; exact ih r0
theorem BRel.cel {h vb b} (r : BRel h vb b) (k : Str → Option NameKind) : ∀ {m d}, RelM h m d → RelM h (bindC k vb m) (bindCD k b d) := by
  induction r with
  | nil => exact fun r => r
  | @cons x v e vs ds rv _ ih =>
    intro m d r0
    unfold bindC bindCD
    by_cases q : k x = some .local
    · rw [if_pos q, if_pos q]; exact ih r0
    · rw [if_neg q, if_neg q]; exact ih (r0.ite rv)
theorem BRel.keep {h h' vb b} (k : TupK h h') (r : BRel h vb b) : BRel h' vb b := by
  induction r with
  | nil => exact .nil
  | cons a _ ih => exact .cons (a.keep k) ih
theorem BRel.names {h vb b} (r : BRel h vb b) : vb.map (·.1) = b.map (·.1) := by
  induction r with
  | nil => rfl
  | cons _ _ ih => simp [ih]
theorem BRel.zip {h} : ∀ {xs : List Str} {vs ds}, VRs h vs ds → BRel h (xs.zip vs) (xs.zip ds)
  | [], _, _, _ => by simp only [List.zip_nil_left]; exact .nil
  | _ :: _, _, _, .nil => by simp only [List.zip_nil_right]; exact .nil
  | x :: xs, _, _, .cons a b => .cons a (BRel.zip b)
theorem RelM.none {h} : RelM h (fun _ => Option.none) (fun _ => Option.none) := fun _ => rfl
noncomputable def putCells : List (Str × Addr) → (Str → Option D) → St → St
  | [], _, σ => σ
  | (n, a) :: r, cm, σ => (putCells r cm σ).put a (.cell (cm n))
theorem putCells_none {cl cm} {σ : St} : ∀ a, putCells cl cm σ a ≠ none → σ a ≠ none ∨ a ∈ cl.map (·.2) := by
  induction cl with
  | nil => exact fun a h => .inl h
  | cons p r ih =>
    intro a h
    obtain ⟨n, b⟩ := p
    by_cases q : a = b
    · exact .inr (by simp [q])
    · unfold putCells at h
      rw [St.put_ne q] at h
      rcases ih a h with z | z
      · exact .inl z
      · exact .inr (by simp only [List.map_cons]; exact .tail _ z)
theorem putCells_mono {cl cm} {σ : St} : ∀ a, σ a ≠ none → putCells cl cm σ a ≠ none := by
  induction cl with
  | nil => exact fun a h => h
  | cons p r ih => exact fun a h => St.put_mono a (ih a h)
theorem putCells_at {cl cm} {σ : St} {a o} (h : putCells cl cm σ a = some o) : σ a = some o ∨ ∃ n, (n, a) ∈ cl ∧ o = .cell (cm n) := by
  induction cl with
  | nil => exact .inl h
  | cons p r ih =>
    obtain ⟨n, b⟩ := p
    unfold putCells at h
    by_cases q : a = b
    · subst q; rw [St.put_same] at h; cases h
      exact .inr ⟨n, .head _, rfl⟩
    · rw [St.put_ne q] at h
      rcases ih h with z | ⟨n', z, e⟩
      · exact .inl z
      · exact .inr ⟨n', .tail _ z, e⟩
noncomputable def cellNames (names : List (Str × NameKind)) : List Str := (cellsFrom 0 names []).map (·.1)
noncomputable def nkOf (names : List (Str × NameKind)) (x : Str) : Option NK := match names.lookup x with
  | some .local => some .loc
  | some .cell => some .cel
  | some .free => some .fre
  | some .globalImplicit => some .glb
  | _ => none
theorem nkOf_inv {names : List (Str × NameKind)} {x : Str} {k : NK} (h : nkOf names x = some k) : (names.lookup x = some .local ∧ k = .loc) ∨ (names.lookup x = some .cell ∧ k = .cel) ∨ (names.lookup x = some .free ∧ k = .fre) ∨ (names.lookup x = some .globalImplicit ∧ k = .glb) := by
  unfold nkOf at h
  cases q : names.lookup x with
  | none => rw [q] at h; cases h
  | some y =>
    rw [q] at h
    cases y with
    | «local» => exact .inl ⟨rfl, (Option.some.inj h).symm⟩
    | cell => exact .inr (.inl ⟨rfl, (Option.some.inj h).symm⟩)
    | free => exact .inr (.inr (.inl ⟨rfl, (Option.some.inj h).symm⟩))
    | globalImplicit => exact .inr (.inr (.inr ⟨rfl, (Option.some.inj h).symm⟩))
    | globalExplicit => cases h
noncomputable def codeName : Str := "<code>"
noncomputable def nkD (names : List (Str × NameKind)) (cd : Option Addr) (q : Str) (x : Str) : Option NK := match cd with
  | none => nkOf names x
  | some c => if x = codeName then some (.cod c q) else nkOf names x
noncomputable def pEnter (names : List (Str × NameKind)) (b : List (Str × D)) (σ : St) (K : Lc → St → Prop) : Prop :=
  ∀ cl : List (Str × Addr), cl.map (·.1) = cellNames names → (cl.map (·.2)).Nodup → (∀ p ∈ cl, σ p.2 = none) → K ⟨bindLD (fun x => names.lookup x) b fun _ => none, cl⟩ (putCells cl (bindCD (fun x => names.lookup x) b fun _ => none) σ)
noncomputable def pDef (names : List (Str × NameKind)) (bs : List D → Option (List (Str × D))) (P : SP) : FP := fun ds σ Q E =>
  match bs ds with
  | some b => pEnter names b σ fun ℓ σ' => P ℓ σ' (fun _ σ'' => Q .none σ'') Q E
  | none => False
noncomputable def bsPlain (xs : List Str) (ds : List D) : Option (List (Str × D)) := if ds.length = xs.length then some (xs.zip ds) else none
section
variable {nk : Str → Option NK} {n c : Nat} {X : Cx} {ℓ : Lc} {σ : St} {s : Shared} {E : Addr → St → Prop}
noncomputable def Cx.inner (X : Cx) (env : Env) : Cx := { X with A := X.A.deeper env, frs := env :: X.frs, env := env }
theorem inner_fs {nk nk' c c'} {env : Env} {L : Addr} {cd : Option Addr} (fm : Fm nk' (n + 1) c' X) (hf : env.frame = some L) (hL : env.locals = L) (hk : env.scope.kind = .function) (hn : nk = nkD env.scope.names cd env.qual) (hcd : ∀ c, cd = some c → env.code = .ref c) (hg : env.globals = mainGlobals) (hb : env.builtins = builtinsNs) (hc : c ≤ 8) : Fs nk n c (X.inner env) where
  G := fm.G
  fr := ⟨env, X.frs, L, rfl, hf, hf⟩
  frames := Around.frames_deeper fm.frames
  handled := fm.handled
  guards := fm.guards
  depth := by have := fm.depth; show X.A.depth + 1 + n + 4 < _; lia
  units := by have := fm.units; show X.A.units + 3 + 200 * n + 10 * c + 100 < _; lia
  kind := hk
  names := fun x k h => by
    subst hn
    have h : (x = codeName ∧ ∃ c, cd = some c ∧ k = .cod c env.qual) ∨ nkOf env.scope.names x = some k := by
      cases cd with
      | none => exact .inr h
      | some c =>
        by_cases q : x = codeName
        · exact .inl ⟨q, _, rfl, (Option.some.inj ((if_pos q).symm.trans (h : (if x = codeName then some (NK.cod c env.qual) else nkOf env.scope.names x) = some k))).symm⟩
        · exact .inr ((if_neg q).symm.trans (h : (if x = codeName then some (NK.cod c env.qual) else nkOf env.scope.names x) = some k))
    rcases h with ⟨_, c, e, rfl⟩ | h
    · exact ⟨hcd c e, rfl⟩
    rcases nkOf_inv h with ⟨q, rfl⟩ | ⟨q, rfl⟩ | ⟨q, rfl⟩ | ⟨q, rfl⟩
    · exact q
    · exact q
    · exact .inr q
    · exact q
  globals := hg
  builtins := hb
  top := ⟨X.frs, rfl⟩
  own := hf.trans (by rw [← hL]; rfl)
theorem enter_dy {env : Env} {h1 : Heap} {m cm : Str → Option Value} {md cd : Str → Option D} {cl : List (Str × Addr)} (dy : Dy X ℓ σ s.heap) (hf : env.frame = some s.heap.objs.size) (hL : env.locals = s.heap.objs.size) (hk : env.scope.kind = .function) (hcl : env.cells = cl)
    (x : InCallC s env.locals m env.cells cm { s with heap := h1, toks := tk1 }) (rm : ∀ h', TupK s.heap h' → RelM h' m md) (rc : ∀ h', TupK s.heap h' → RelM h' cm cd) (hnd : (cl.map (·.1)).Nodup) :
    Dy (X.inner env) ⟨md, cl⟩ (putCells cl cd σ) h1 ∧ (∀ fr xs, Kp fr xs σ s.heap (putCells cl cd σ) h1) ∧ TupK s.heap h1 ∧ (cl.map (·.2)).Nodup ∧ ∀ p ∈ cl, σ p.2 = none := by
  have up : ∀ b o, s.heap.get? b = some o → h1.get? b = some o := x.toInCall.keep
  obtain ⟨dyG, kpG, t⟩ := dy.grow up
  subst hcl
  have newC : ∀ a, s.heap.objs.size ≤ a → New s.heap a := fun a ha => by
    refine ⟨?_, Nat.lt_of_lt_of_le dy.newA.2 ha⟩
    cases q : s.heap.get? a with
    | none => rfl
    | some o => exact absurd (Heap.lt_size q) (Nat.not_lt.mpr ha)
  have cNew : ∀ p ∈ env.cells, New s.heap p.2 := fun p hp => newC _ (Nat.le_of_lt (hL ▸ x.above p.1 p.2 hp))
  have new : ∀ a, putCells env.cells cd σ a ≠ none → σ a ≠ none ∨ New s.heap a := fun a h => by
    rcases putCells_none a h with z | z
    · exact .inl z
    · obtain ⟨p, hp, rfl⟩ := List.mem_map.mp z; exact .inr (cNew p hp)
  have kp : ∀ fr xs, Kp fr xs σ s.heap (putCells env.cells cd σ) h1 := fun fr xs => ⟨fun a o e _ _ _ => up a o e, fun a m n _ _ _ => n.at' fun o e => up a o e, fun a o e => ⟨o, up a o e⟩, new, putCells_mono⟩
  have hLs : X.hB.get? env.locals = none := by
    cases q : X.hB.get? env.locals with
    | none => rfl
    | some o => have := dy.stays _ _ q; rw [(newC _ (Nat.le_of_eq hL.symm)).1] at this; cases this
  have rl := rm h1 t
  have rcl := rc h1 t
  have offL : putCells env.cells cd σ env.locals = none := by
    cases q : putCells env.cells cd σ env.locals with
    | none => rfl
    | some o =>
      rcases putCells_none env.locals (by rw [q]; simp) with z | z
      · exact absurd (dy.fresh (newC _ (Nat.le_of_eq hL.symm))) z
      · obtain ⟨p, hp, e⟩ := List.mem_map.mp z
        have := x.above p.1 p.2 hp
        rw [e] at this; exact absurd this (Nat.lt_irrefl _)
  refine ⟨⟨fun b o e => up b o (dy.stays b o e), dy.two, fun env' he => ?_, fun L h => ?_, hLs, ⟨m, x.toInCall.ns, fun z d e => ?_⟩, rfl, fun a h => ?_, fun a o h => ?_⟩, kp, t, ?_, fun p hp => dy.fresh (cNew p hp)⟩
  · rcases List.mem_cons.mp he with rfl | he
    · exact ⟨by rw [hk]; decide, _, m, hf.trans (by rw [hL]), hLs, x.toInCall.ns⟩
    · obtain ⟨a1, L, m', a2, a3, a4⟩ := dy.frames env' he
      exact ⟨a1, L, m', a2, a3, a4.keeps up⟩
  · have hL' : L = env.locals ∨ L ∈ X.frs.filterMap (·.frame) := by
      rcases List.mem_cons.mp h with h | h
      · exact .inl h
      · have h : L ∈ (env :: X.frs).filterMap (·.frame) := h
        rw [List.filterMap_cons, hf] at h
        rcases List.mem_cons.mp h with h | h
        · exact .inl (h.trans hL.symm)
        · exact .inr h
    rcases hL' with rfl | hL'
    · exact offL
    · have q := dy.off L (.tail _ hL')
      obtain ⟨m', hn, _⟩ := dy.frD (.tail _ hL')
      obtain ⟨o, e⟩ := ns_some hn
      exact (kp [] []).none_ e q
  · have := rl z; simp only at e; rw [e] at this; exact this
  · rcases new a h with z | z
    · exact dy.low a z
    · refine ⟨?_, z.2⟩
      show X.hB.get? a = none
      cases q : X.hB.get? a with
      | none => rfl
      | some o => have := dy.stays _ _ q; rw [z.1] at this; cases this
  · rcases putCells_at h with z | ⟨nm, hm, rfl⟩
    · exact dyG.rep a o z
    · have hc := x.cell nm a (lookup_of_mem_nodup hnd hm)
      have r := rcl nm
      show ORep X.w h1 a (.cell (cd nm))
      cases q : cd nm with
      | none => rw [q] at r; rw [r] at hc; exact hc
      | some d => rw [q] at r; obtain ⟨v, e, rv⟩ := r; rw [e] at hc; exact ⟨v, hc, rv⟩
  · have := x.apart
    rw [List.Nodup, List.pairwise_map]
    exact this
end
end Mine
end F_Abs15
section F_Abs16
open PySem PySem.W PySem.Spec PySem.Calls PyProof.Rows
namespace Mine
structure DefAt (f : Addr) (qual : Str) (params : Arguments) (body : List Stmt) (scope : Scope) (bs : List D → Option (List (Str × D))) (cd : Option Addr) : Prop where
  at_ : ∀ w, ∃ oc od osl name dV kV doc pm an cdv ct, (KF w).lookup f = some ⟨oc, od, .func (fnOf name qual params body scope dV kV doc pm an cdv ct), osl⟩ ∧ codeIn (KF w) cdv qual = true ∧ (∀ c, cd = some c → cdv = .ref c) ∧
    ∀ (s : Shared) vs ds b, (KF w).In s.heap → VRs s.heap vs ds → bs ds = some b → ∃ vb, BindsTo s (fnOf name qual params body scope dV kV doc pm an cdv ct) ⟨vs, []⟩ vb ∧ BRel s.heap vb b
  co : scope.isCoroutine = false
  gen : scope.isGenerator = false
  kind : scope.kind = .function
  nd : (cellNames scope.names).Nodup
  kinds : ∀ ds b, bs ds = some b → ∀ x ∈ b.map (·.1), scope.names.lookup x = some .local ∨ scope.names.lookup x = some .cell
theorem Dy.back {X X' ℓ ℓ' σ σ' h h'} (y : Dy X ℓ σ h) (kp : Kp X.fr [] σ h σ' h') (y' : Dy X' ℓ' σ' h') (hw : X'.w = X.w) : Dy X ℓ σ' h' := y.to kp fun a o e => hw ▸ y'.rep a o e
theorem ExcAt.of {X X' h0 h σ C e} (x : ExcAt X h0 h σ C e) (hB : X.hB = X'.hB) : ExcAt X' h0 h σ C e := by
  obtain ⟨oe, vs, a1, a2, a3, a4, a5, a6, a7⟩ := x
  refine ⟨oe, vs, a1, a2, a3, a4, a5, hB ▸ a6, ?_⟩
  rcases a7 with a7 | ⟨T, oT, ts, b1, b2, b3, b4, b5, b6, b7⟩
  · exact .inl a7
  · exact .inr ⟨T, oT, ts, b1, b2, b3, b4, b5, b6, b7.1, hB ▸ b7.2⟩
theorem inner_outer {X : Cx} {env : Env} {ℓ : Lc} {σ σ1 σ' : St} {h h1 h' : Heap} (dy : Dy X ℓ σ h) (hf : env.frame = some h.objs.size) (hL : env.locals = h.objs.size) (kpE : ∀ fr xs, Kp fr xs σ h σ1 h1) (kp : Kp (X.inner env).fr [env.locals] σ1 h1 σ' h') : Kp X.fr [] σ h σ' h' := by
  have t := (kpE (X.inner env).fr [env.locals]).trans kp
  have nL : h.get? env.locals = none := by rw [hL]; exact get_size h
  refine t.outer (fun a ha => ?_) fun a ha => ?_
  · rcases List.mem_cons.mp ha with rfl | ha
    · exact .inr nL
    · have ha : a ∈ (env :: X.frs).filterMap (·.frame) := ha
      rw [List.filterMap_cons, hf] at ha
      rcases List.mem_cons.mp ha with rfl | ha
      · exact .inr (get_size h)
      · exact .inl (.tail _ ha)
  · rw [List.mem_singleton.mp ha]; exact .inr nL
noncomputable def SndFc (n : Nat) (f : Value) (P : FP) : Prop :=
  ∀ (nk : Str → Option NK) (c : Nat) (X : Cx) (ℓ : Lc) (σ : St) (s : Shared) (Q : D → St → Prop) (E : Addr → St → Prop) (vs : List Value) (ds : List D), Fm nk n c X → Dy X ℓ σ s.heap → VRs s.heap vs ds → P ds σ Q E →
    codeAny (model prg X.w) X.A (.call f ⟨vs, []⟩) (fun r s' => match r with | .ok (.ret v) => PE X ℓ σ s Q v s' | .ok _ => False | .error e => PX X [] σ s E e s') s
theorem SndFc.f {n f P} (H : SndFc n f P) : SndF n f P := fun nk c X ℓ σ s Q E vs ds fm dy rs hp => wpAny_call (H nk c X ℓ σ s Q E vs ds fm dy rs hp)
theorem SndFc.def_ {f : Addr} {qual : Str} {params : Arguments} {body : List Stmt} {scope : Scope} {bs : List D → Option (List (Str × D))} {cd : Option Addr} {n c : Nat} {P : SP} (Df : DefAt f qual params body scope bs cd) (hc : c ≤ 8)
    (H : SndSs (nkD scope.names cd (qual ++ ".<locals>.")) n c body P) : SndFc (n + 1) (.ref f) (pDef scope.names bs P) := fun nk' c' X ℓ σ s Q E vs ds fm dy rs hp => by
  obtain ⟨loose, mean, mg, mb, T⟩ := fm.G.T
  obtain ⟨oc, od, osl, name, dV, kV, doc, pm, an, cdv, ct, ho, hcd, hcdv, hb⟩ := Df.at_ X.w
  have K0 := dy.KB fm.G
  unfold pDef at hp
  cases q : bs ds with
  | none => rw [q] at hp; exact hp.elim
  | some b =>
    rw [q] at hp
    dsimp only at hp
    obtain ⟨vb, hbt, hbr⟩ := hb s vs ds b K0 rs q
    have hroom : X.A.depth < recursionLimit := by have := fm.depth; lia
    refine codeAny_call_function hroom (K0 _ _ ho) rfl Df.co Df.gen rfl (codeRec_of K0 hcd) (hbt _ _ _ _ ?_)
    have hkind : (vb.all fun y => scope.names.lookup y.1 == some .local || scope.names.lookup y.1 == some .cell) = true := by
      rw [List.all_eq_true]
      intro y hy
      have : y.1 ∈ b.map (·.1) := by rw [← hbr.names]; exact List.mem_map_of_mem hy
      rcases Df.kinds ds b q _ this with z | z <;> simp [z]
    refine wpAny_newFunctionEnv_cells Df.kind (kindsX hkind _) fun env he s' x => ?_
    have hf : env.frame = some s.heap.objs.size := by rw [he]; rfl
    have hL : env.locals = s.heap.objs.size := by rw [he]; rfl
    have hk : env.scope.kind = .function := by rw [he]; exact Df.kind
    have hsc : env.scope = scope := by rw [he]; rfl
    have hkf : env.kindOf = fun x => scope.names.lookup x := by funext x; show env.scope.names.lookup x = _; rw [hsc]
    have hcl : env.cells = cellsFrom (s.heap.objs.size + 1) scope.names [] := by rw [he]; rfl
    obtain ⟨h1, tk1, rfl, hup⟩ := x.done
    have hnd : (env.cells.map (·.1)).Nodup := by rw [hcl, cellsFrom_names scope.names (s.heap.objs.size + 1) 0 [] [] rfl]; exact Df.nd
    have rm := fun h' (t : TupK s.heap h') => (hbr.keep t).loc env.kindOf RelM.none
    have rc := fun h' (t : TupK s.heap h') => (hbr.keep t).cel env.kindOf RelM.none
    obtain ⟨dy1, kpE, t1, nd1, fr1⟩ := enter_dy dy hf hL hk rfl x rm rc hnd
    refine ⟨(T.nolimit.keeps dy.stays).keeps hup, codeAny_func ?_⟩
    have fs : Fs (nkD scope.names cd (qual ++ ".<locals>.")) n c (X.inner env) := inner_fs (cd := cd) fm hf hL hk (by rw [hsc, he]; rfl) (fun c e => by rw [he]; exact hcdv c e) (by rw [he]; rfl) (by rw [he]; rfl) hc
    have hp1 := hp env.cells (by rw [hcl]; exact cellsFrom_names scope.names _ 0 [] [] rfl) nd1 fr1
    rw [← hkf] at hp1
    refine wpAny_mono (H (X.inner env) _ _ { s with heap := h1, toks := tk1 } _ _ E fs dy1 hp1) (fun fl s' p => ?_) fun v s' p => ?_
    · rcases p with ⟨rfl, ℓ', σ', h', tk', rfl, dy', kp', hq⟩ | ⟨v, d, ℓ', σ', h', tk', rfl, rfl, vr, dy', kp', hq⟩
      · have kpT := inner_outer dy hf hL kpE kp'
        exact PE.mk (σ := σ) .none (dy.back kpT dy' rfl) kpT hq
      · have kpT := inner_outer dy hf hL kpE kp'
        exact PE.mk (σ := σ) vr (dy.back kpT dy' rfl) kpT hq
    · obtain ⟨C, e, ℓ', σ', h', tk', rfl, rfl, dy', kp', ex, hq⟩ := p
      refine leaving_ok (X := X.inner env) (xs := [env.locals]) (σ0 := putCells env.cells (bindCD env.kindOf b fun _ => none) σ) (h0 := h1) fs.toFm fs.frames dy' kp' ex fun h2 tk2 dy2 kp2 ex2 => ?_
      have kpT := inner_outer dy hf hL kpE kp2
      exact ⟨C, e, ℓ, σ', h2, tk2, rfl, rfl, dy.back kpT dy2 rfl, kpT, (ex2.at.back (kpE [] [])).of rfl, hq⟩
end Mine
end F_Abs16
section F_Abs17
open PySem PySem.W PySem.Spec PySem.Calls PyProof.Rows
namespace Mine
noncomputable def intsOf : List D → Option (List Int)
  | [] => some []
  | .int i :: r => (intsOf r).map (i :: ·)
  | _ => none
theorem intsOf_are {h : Heap} : ∀ {ds vs ns}, VRs h vs ds → intsOf ds = some ns → IntsAre vs ns
  | [], _, _, .nil, e => by cases e; exact .nil
  | d :: ds, _, ns, .cons a b, e => by
    cases d with
    | int i =>
      obtain ⟨t, rfl⟩ := a.int_inv
      simp only [intsOf, Option.map_eq_some_iff] at e
      obtain ⟨r, e1, rfl⟩ := e
      exact .cons _ _ (intsOf_are b e1)
    | _ => simp [intsOf] at e
theorem oneD {ds : List D} {M : List D → Prop} (hp : M ds) (h0 : M [] → False) (h2 : ∀ a b r, M (a :: b :: r) → False) : ∃ d, ds = [d] := by
  cases ds with
  | nil => exact (h0 hp).elim
  | cons a r => cases r with
    | nil => exact ⟨a, rfl⟩
    | cons b r => exact (h2 _ _ _ hp).elim
theorem twoD {ds : List D} {M : List D → Prop} (hp : M ds) (h0 : M [] → False) (h1 : ∀ a, M [a] → False) (h3 : ∀ a b c r, M (a :: b :: c :: r) → False) : ∃ d e, ds = [d, e] := by
  cases ds with
  | nil => exact (h0 hp).elim
  | cons a r => cases r with
    | nil => exact (h1 _ hp).elim
    | cons b r => cases r with
      | nil => exact ⟨a, b, rfl⟩
      | cons c r => exact (h3 _ _ _ _ hp).elim
noncomputable def fTuple : FP := fun ds σ Q E => match ds with
  | [.tup xs] => Q (.tup xs) σ
  | [.ref a] => ∃ xs, σ a = some (.list xs) ∧ xs.length ≤ 100000 ∧ Q (.tup xs) σ
  | _ => False
noncomputable def fList : FP := fun ds σ Q E => match ds with
  | [.tup xs] => xs.length ≤ 100000 ∧ ∀ c, σ c = none → Q (.ref c) (σ.put c (.list xs))
  | [.ref a] => ∃ xs, σ a = some (.list xs) ∧ xs.length ≤ 100000 ∧ ∀ c, σ c = none → Q (.ref c) (σ.put c (.list xs))
  | _ => False
noncomputable def fLen : FP := fun ds σ Q E => match ds with
  | [.tup xs] => xs.length ≤ 100000 ∧ Q (.int xs.length) σ
  | [.bytes b] => b.size ≤ 100000 ∧ Q (.int b.size) σ
  | [.ref a] => (match σ a with | some (.list xs) => xs.length ≤ 100000 ∧ Q (.int xs.length) σ | some (.dict es) => es.length ≤ 100000 ∧ Q (.int es.length) σ | _ => False)
  | _ => False
noncomputable def fSum : FP := fun ds σ Q E => match ds with
  | [.ref a] => ∃ xs ns, σ a = some (.list xs) ∧ intsOf xs = some ns ∧ Q (.int ns.sum) σ
  | _ => False
noncomputable def fRange : FP := fun ds σ Q E => match ds with
  | [.int n] => 0 ≤ n ∧ ∀ c, σ c = none → Q (.ref c) (σ.put c (.range n.toNat))
  | _ => False
noncomputable def fBytesInts : FP := fun ds σ Q E => match ds with
  | [.ref a] => ∃ xs ns, σ a = some (.list xs) ∧ intsOf xs = some ns ∧ ns.length ≤ 100000 ∧ (∀ n ∈ ns, 0 ≤ n ∧ n < 256) ∧ Q (.bytes (byteArr ns)) σ
  | _ => False
section
variable {n : Nat}
theorem SndF.tuple : SndF n (.type "tuple") fTuple := fun nk c X ℓ σ s Q E vs ds fm dy rs hp => by
  obtain ⟨d, rfl⟩ := oneD (M := fun ds => fTuple ds σ Q E) hp (fun h => h) fun a b r h => by cases a <;> exact h
  cases d with
  | tup xs =>
    obtain ⟨v, _, rfl, rv, r⟩ := rs.cons_inv; cases r.nil_inv
    obtain ⟨a, o, ws, k, rfl, g1, g2, g3, g4⟩ := rv.tup_inv
    exact call_tuple_same ⟨o, g1, g2, k, g3⟩ (PE.mk (tk' := s.toks) rv dy .refl hp)
  | ref a =>
    obtain ⟨v, _, rfl, rv, r⟩ := rs.cons_inv; cases r.nil_inv
    cases rv.ref_inv
    obtain ⟨xs, ha, hz, hq⟩ := hp
    obtain ⟨o, ws, k, g1, g2, g3, g4⟩ := dy.rep _ _ ha
    refine call_tuple_list ⟨o, g1, g2, k, g3⟩ (fun h' hk => ?_) (le_size (by rw [← Array.length_toList, g4.length]; exact hz))
    obtain ⟨dy1, kp1, t1⟩ := dy.grow (h' := h'.push { cls := .type "tuple", data := .seq ws }) fun b o e => Heap.get?_push_of_some _ (hk b o e)
    exact PE.mk (tk' := s.toks) (.tup (Heap.get?_push_size _ rfl) rfl rfl (g4.keep t1)) dy1 kp1 hq
  | _ => exact hp.elim
theorem SndF.list : SndF n (.type "list") fList := fun nk c X ℓ σ s Q E vs ds fm dy rs hp => by
  have fin : ∀ (ws : Array Value) (xs : List D) (a : Addr) (o : Obj) (k : Nat) (T : String), (T = "list" ∨ T = "tuple") → s.heap.get? a = some o → o.cls = .type T → o.data = .seq ws k → VRs s.heap ws.toList xs → xs.length ≤ 100000 → (∀ c, σ c = none → Q (.ref c) (σ.put c (.list xs))) →
      wpAny (model prg X.w) X.A (call (.type "list") [.ref a]) (PE X ℓ σ s Q) (PX X [] σ s E) s := fun ws xs a o k T hT g1 g2 g3 g4 hz hq => by
    refine call_list_seq (hsz := le_size (by rw [← Array.length_toList, g4.length]; exact hz)) a hT g1 g2 g3 fun h' c' hk hD => ?_
    obtain ⟨dy1, kp1, t1⟩ := dy.grow hk
    obtain ⟨dy2, kp2⟩ := dy.addTo (o := .list xs) dy1 kp1 dy.newA ⟨_, _, _, hD, rfl, rfl, g4.keep t1⟩
    exact PE.mk (tk' := s.toks) (.ref _) dy2 kp2 (hq _ (dy.fresh dy.newA))
  obtain ⟨d, rfl⟩ := oneD (M := fun ds => fList ds σ Q E) hp (fun h => h) fun a b r h => by cases a <;> exact h
  cases d with
  | tup xs =>
    obtain ⟨v, _, rfl, rv, r⟩ := rs.cons_inv; cases r.nil_inv
    obtain ⟨a, o, ws, k, rfl, g1, g2, g3, g4⟩ := rv.tup_inv
    exact fin ws _ a o k "tuple" (.inr rfl) g1 g2 g3 g4 hp.1 hp.2
  | ref a =>
    obtain ⟨v, _, rfl, rv, r⟩ := rs.cons_inv; cases r.nil_inv
    cases rv.ref_inv
    obtain ⟨xs, ha, hz, hq⟩ := hp
    obtain ⟨o, ws, k, g1, g2, g3, g4⟩ := dy.rep _ _ ha
    exact fin ws _ _ o k "list" (.inl rfl) g1 g2 g3 g4 hz hq
  | _ => exact hp.elim
theorem SndF.len : SndF n (.builtin "len") fLen := fun nk c X ℓ σ s Q E vs ds fm dy rs hp => by
  obtain ⟨d, rfl⟩ := oneD (M := fun ds => fLen ds σ Q E) hp (fun h => h) fun a b r h => by cases a <;> exact h
  cases d with
  | tup xs =>
    have hp : xs.length ≤ 100000 ∧ Q (.int xs.length) σ := hp
    obtain ⟨v, _, rfl, rv, r⟩ := rs.cons_inv; cases r.nil_inv
    obtain ⟨a, o, ws, k, rfl, g1, g2, g3, g4⟩ := rv.tup_inv
    have hl : ws.size = _ := (Array.length_toList (xs := ws)).symm.trans g4.length
    exact PyProof.Rows.len_tuple ⟨o, g1, g2, k, g3⟩ (by rw [hl]; omega) (PE.mk (σ := σ) (by rw [hl]; exact .int _ _) dy .refl hp.2)
  | bytes b =>
    have hp : b.size ≤ 100000 ∧ Q (.int b.size) σ := hp
    obtain ⟨v, _, rfl, rv, r⟩ := rs.cons_inv; cases r.nil_inv
    obtain ⟨t, rfl⟩ := rv.bytes_inv
    exact len_bytes (by omega) (PE.mk (σ := σ) (.int _ _) dy .refl hp.2)
  | ref a =>
    obtain ⟨v, _, rfl, rv, r⟩ := rs.cons_inv; cases r.nil_inv
    cases rv.ref_inv
    dsimp only [fLen] at hp
    cases ha : σ a with
    | none => rw [ha] at hp; exact hp.elim
    | some o =>
    rw [ha] at hp
    cases o with
    | list xs =>
      obtain ⟨o, ws, k, g1, g2, g3, g4⟩ := dy.rep _ _ ha
      have hl : ws.size = _ := (Array.length_toList (xs := ws)).symm.trans g4.length
      exact PyProof.Rows.len_list ⟨o, g1, g2, k, g3⟩ (by rw [hl]; omega) (PE.mk (σ := σ) (by rw [hl]; exact .int _ _) dy .refl hp.2)
    | dict es =>
      obtain ⟨xs, hx, rx⟩ := dy.rep _ _ ha
      exact dict_len (not_sys (dy.low _ (by rw [ha]; simp)).2) hx (by rw [rx.length]; omega) (PE.mk (σ := σ) (by rw [rx.length]; exact .int _ _) dy .refl hp.2)
    | _ => exact hp.elim
  | _ => exact hp.elim
theorem SndF.sum : SndF n (.builtin "sum") fSum := fun nk c X ℓ σ s Q E vs ds fm dy rs hp => by
  obtain ⟨d, rfl⟩ := oneD (M := fun ds => fSum ds σ Q E) hp (fun h => h) fun a b r h => by cases a <;> exact h
  cases d with
  | ref a =>
    obtain ⟨v, _, rfl, rv, r⟩ := rs.cons_inv; cases r.nil_inv
    cases rv.ref_inv
    obtain ⟨xs, ns, ha, hn, hq⟩ := hp
    obtain ⟨o, ws, k, g1, g2, g3, g4⟩ := dy.rep _ _ ha
    obtain ⟨m, F, N, hm⟩ := dy.frE
    refine sum_list fm.handled F N ⟨o, g1, g2, k, by rw [Array.toArray_toList]; exact g3⟩ (intsOf_are g4 hn) fun h' tk t' F' N' => ?_
    obtain ⟨dy1, kp1, t1⟩ := dy.growN (new := []) hm F' N'
    exact PE.mk (.int _ _) dy1 kp1 hq
  | _ => exact hp.elim
theorem SndF.range : SndF n (.type "range") fRange := fun nk c X ℓ σ s Q E vs ds fm dy rs hp => by
  obtain ⟨d, rfl⟩ := oneD (M := fun ds => fRange ds σ Q E) hp (fun h => h) fun a b r h => by cases a <;> exact h
  cases d with
  | int k =>
    obtain ⟨v, _, rfl, rv, r⟩ := rs.cons_inv; cases r.nil_inv
    obtain ⟨t, rfl⟩ := rv.int_inv
    refine call_range_1 ?_
    obtain ⟨dy1, kp1, t1⟩ := dy.push { cls := .type "range", data := .fields #[.int 0 s.toks, .int k t, .int 1 (s.toks + 1)] }
    obtain ⟨dy2, kp2⟩ := dy.addTo (o := .range k.toNat) dy1 kp1 dy.newA ⟨_, _, _, by rw [Int.toNat_of_nonneg hp.1]; exact IsRange.new ..⟩
    exact PE.mk (.ref _) dy2 kp2 (hp.2 _ (dy.fresh dy.newA))
  | _ => exact hp.elim
theorem SndF.bytesInts : SndF n (.type "bytes") fBytesInts := fun nk c X ℓ σ s Q E vs ds fm dy rs hp => by
  obtain ⟨d, rfl⟩ := oneD (M := fun ds => fBytesInts ds σ Q E) hp (fun h => h) fun a b r h => by cases a <;> exact h
  cases d with
  | ref a =>
    obtain ⟨v, _, rfl, rv, r⟩ := rs.cons_inv; cases r.nil_inv
    cases rv.ref_inv
    obtain ⟨xs, ns, ha, hn, hz, hb, hq⟩ := hp
    obtain ⟨o, ws, k, g1, g2, g3, g4⟩ := dy.rep _ _ ha
    have hi := intsOf_are g4 hn
    refine call_bytes_ints (vs := ws.toList) ⟨o, g1, g2, k, by rw [Array.toArray_toList]; exact g3⟩ hi hb (by rw [hi.length]; exact le_size hz) fm.handled fun h' t' k' hk => ?_
    obtain ⟨dy1, kp1, t1⟩ := dy.grow hk
    exact PE.mk (.bytes _ _) dy1 kp1 hq
  | _ => exact hp.elim
end
end Mine
end F_Abs17
section F_Abs18
open PySem PySem.W PySem.Spec PySem.Calls PyProof.Rows
namespace Mine
theorem wp_method {prog : Program} {w : World} {A : Around} {E : Value → Shared → Prop} {s : Shared} {env : Env} {o : Expr} {name : Str} {apos pos : Pos} {args : List Expr} {Q : Value → Shared → Prop}
    (hbase : attributeBase o name env (eval o env) = eval o env)
    (hform : methodCallForm (args.length + ([] : List Keyword).length) (backTo pos (starEach args env)) (backToKw pos (keywordEach [] env)) = true)
    (hline : (apos.endLine == pos.line) = true)
    (h : wpAny (model prog w) A (eval o env) (fun ov s₁ => ∀ pl, wpAny (model prog w) A (getMethod ov name pl) (fun fm s₂ => wpAny (model prog w) A (callWith pos fm.1 fm.2 (backTo pos (starEach args env)) []) Q E s₂) E s₁) E s) :
    wpAny (model prog w) A (eval (.Call (.Attribute o name apos) args [] pos) env) Q E s := by
  rw [arm_eval_Call, hbase]
  refine wpAny_bind (wpAny_mono h (fun ov s₁ h₁ => ?_) fun _ _ e => e)
  refine wpAny_bind (wpAny_standAt ?_)
  have hpos : methodCallPos true o env apos pos = pure pos := by unfold methodCallPos; simp [hline]
  unfold methodCall
  rw [hform]
  refine wpAny_bind (wpAny_holding (wpAny_mono (h₁ _) (fun fm s₂ h₂ => ?_) fun _ _ e => e))
  exact wpAny_bind (wpAny_of_eq hpos h₂)
structure MethOk (w : World) (C : Addr) (x : Str) (f : Addr) : Prop where
  pg : plainGet (KF w) C x = true
  pf : findIn (KF w) (.ref C) x = some (some (.ref f))
  pt : isFn (KF w) (.ref f) = true
noncomputable def pMeth (C : Addr) (x : Str) (F : FP) (Po : EvP) (Ps : EvsP) : EvP := fun ℓ σ Q E => Po ℓ σ (fun o σ1 => match o with
  | .ref a => ∃ td fs, σ1 a = some (.inst C td) ∧ σ1 td = some (.attrs fs) ∧ fs.lookup x = none ∧ Ps ℓ σ1 (fun ds σ2 => F (.ref a :: ds) σ2 Q E) E
  | _ => False) E
noncomputable def IsT (T : String) (d : D) (σ : St) : Prop := match T, d with
  | "dict", .ref a => ∃ es, σ a = some (.dict es)
  | "bytearray", .ref a => ∃ b, σ a = some (.barr b)
  | "bytes", .bytes _ => True
  | _, _ => False
noncomputable def pMethB (T : String) (F : FP) (Po : EvP) (Ps : EvsP) : EvP := fun ℓ σ Q E => Po ℓ σ (fun o σ1 => IsT T o σ1 ∧ Ps ℓ σ1 (fun ds σ2 => F (o :: ds) σ2 Q E) E) E
section
variable {X : Cx} {ℓ : Lc} {σ1 : St} {s : Shared} {h1 : Heap} {tk1 : Nat} {E : Value → Shared → Prop}
theorem isT_ok {T : String} {d : D} {v : Value} {name : Str} {id : String} {pl : Sem Bool} {Q : Value × List Value → Shared → Prop} (dy : Dy X ℓ σ1 h1) (hT : IsT T d σ1) (rv : VR h1 v d) (pa : PlainAttrs T) (slot : Slot T name id) (hty : typeOf (.builtin id) = pure (.type "method_descriptor"))
    (h : Q (.builtin id, [v]) { s with heap := h1, toks := tk1 }) : wpAny (model prg X.w) X.A (getMethod v name pl) Q E { s with heap := h1, toks := tk1 } := by
  by_cases e1 : T = "dict"
  · subst e1
    cases d with
    | ref a =>
      cases rv.ref_inv
      obtain ⟨es, ha⟩ := hT
      obtain ⟨xs, hx, rx⟩ := dy.rep _ _ ha
      exact dict_method (s := { s with heap := h1, toks := tk1 }) slot hty hx h
    | _ => exact hT.elim
  by_cases e2 : T = "bytearray"
  · subst e2
    cases d with
    | ref a =>
      cases rv.ref_inv
      obtain ⟨b, ha⟩ := hT
      obtain ⟨o, g1, g2, g3, g4⟩ := dy.rep _ _ ha
      exact getMethod_builtin (s := { s with heap := h1, toks := tk1 }) ⟨o, g1, g2⟩ pa slot hty (fun a e => by cases e; exact ⟨o, g1, g4⟩) h
    | _ => exact hT.elim
  by_cases e3 : T = "bytes"
  · subst e3
    cases d with
    | bytes b =>
      obtain ⟨t, rfl⟩ := rv.bytes_inv
      exact getMethod_builtin (s := { s with heap := h1, toks := tk1 }) (typeIs_bytes _ _ _) pa slot hty (fun a e => by cases e) h
    | _ => exact hT.elim
  delta IsT IsT.match_1 at hT
  dsimp only at hT
  rw [dif_neg e1, dif_neg e2, dif_neg e3] at hT
  exact hT.elim
theorem new_of {X ℓ σ h} (dy : Dy X ℓ σ h) {a : Addr} (hlt : ∀ p ∈ allOf h X.env.locals, p.1 < a) (hn : a ≠ X.env.locals) : New h a := by
  refine ⟨?_, ?_⟩
  · cases q : h.get? a with
    | none => rfl
    | some o => exact absurd (hlt (a, o) (mem_allOf.mpr ⟨hn, q⟩)) (Nat.lt_irrefl _)
  · obtain ⟨o, e⟩ := dy.two
    have hne : cStatics ≠ X.env.locals := fun q => by rw [q, dy.offL] at e; cases e
    exact Nat.lt_trans (show sysModules < cStatics by decide) (hlt (cStatics, o) (mem_allOf.mpr ⟨hne, dy.stays _ _ e⟩))
end
section
variable {nk : Str → Option NK} {n c : Nat}
theorem SndE.meth {o x apos pos args C f F Po Ps} (Ho : SndE nk n c o Po) (Hs : SndEs nk n c pos args Ps) (hok : ∀ w, MethOk w C x f) (hF : SndF n (.ref f) F) (hk : KOk (.ref f)) (hpl : ∀ env, (backTo pos (starEach args env)).any (·.1) = false)
    (hbase : ∀ env, attributeBase o x env (eval o env) = eval o env) (hform : ∀ env, methodCallForm (args.length + ([] : List Keyword).length) (backTo pos (starEach args env)) (backToKw pos (keywordEach [] env)) = true) (hline : (apos.endLine == pos.line) = true) :
    SndE nk n c (.Call (.Attribute o x apos) args [] pos) (pMeth C x F Po Ps) := fun X ℓ σ s Q E fm dy hp => by
  refine wp_method (hbase _) (hform _) hline (Ho.run (h1 := s.heap) (tk1 := s.toks) fm dy .refl hp fun vo o σ1 h1 tk1 ro dy1 _ kp1 t1 hp1 => ?_)
  intro pl
  cases o with
  | ref a =>
    obtain ⟨td, fs, ha, hf, hl, hq⟩ := hp1
    cases ro.ref_inv
    have r1 := dy1.rep _ _ ha
    obtain ⟨es, m, r2, rr⟩ := dy1.rep _ _ hf
    have I : InstAt h1 a (instObj C td) C (some (dictOf es m)) := ⟨r1, rfl, rfl, r2⟩
    refine method_fn (s := { s with heap := h1, toks := tk1 }) (dy1.KB fm.G) I (plainGet_of (hok X.w).pg).1 (plainGet_of (hok X.w).pg).2 (hok X.w).pf (beq_iff_eq.mp (hok X.w).pt) (by show (lookIn x (dictOf es m)).map _ = _; rw [lookIn_dict, rr.getN hl]; rfl) ?_
    exact callW (first := [.ref a]) (fds := [.ref a]) Hs hF (hk X.w) hpl fm dy1 kp1 (.cons (.ref _) .nil) hq
  | _ => exact hp1.elim
theorem SndE.methB {o x apos pos args T id F Po Ps} (Ho : SndE nk n c o Po) (Hs : SndEs nk n c pos args Ps) (hF : SndF n (.builtin id) F) (pa : PlainAttrs T) (slot : Slot T x id) (hty : typeOf (.builtin id) = pure (.type "method_descriptor")) (hpl : ∀ env, (backTo pos (starEach args env)).any (·.1) = false)
    (hbase : ∀ env, attributeBase o x env (eval o env) = eval o env) (hform : ∀ env, methodCallForm (args.length + ([] : List Keyword).length) (backTo pos (starEach args env)) (backToKw pos (keywordEach [] env)) = true) (hline : (apos.endLine == pos.line) = true) :
    SndE nk n c (.Call (.Attribute o x apos) args [] pos) (pMethB T F Po Ps) := fun X ℓ σ s Q E fm dy hp => by
  refine wp_method (hbase _) (hform _) hline (Ho.run (h1 := s.heap) (tk1 := s.toks) fm dy .refl hp fun vo o σ1 h1 tk1 ro dy1 _ kp1 t1 hp1 => ?_)
  intro pl
  refine isT_ok (s := s) dy1 hp1.1 ro pa slot hty ?_
  exact callW (first := [vo]) (fds := [o]) Hs hF (KOk.bi id X.w) hpl fm dy1 kp1 (.cons ro .nil) hp1.2
end
@[irreducible] def fNew (C : Addr) (init : FP) : FP := fun ds σ Q E => ∀ a td, σ a = none → σ td = none → td ≠ a → init (.ref a :: ds) ((σ.put td (.attrs [])).put a (.inst C td)) (fun d σ' => d = .none ∧ Q (.ref a) σ') E
structure MakeOk (w : World) (C fI : Addr) : Prop where
  m : makesIn (KF w) C = true
  i : findIn (KF w) (.ref C) "__init__" = some (some (.ref fI))
  t : typeIn (KF w) (.ref fI) = some (.type "function")
theorem Dy.cA {X : Cx} {A : Around} {ℓ σ h} (y : Dy X ℓ σ h) : Dy { X with A := A } ℓ σ h := ⟨y.stays, y.two, y.frames, y.off, y.offL, y.own, y.cel, y.low, y.rep⟩
theorem Dy.cA' {X : Cx} {A : Around} {ℓ σ h} (y : Dy { X with A := A } ℓ σ h) : Dy X ℓ σ h := ⟨y.stays, y.two, y.frames, y.off, y.offL, y.own, y.cel, y.low, y.rep⟩
theorem SndF.new {C fI : Addr} {n : Nat} {init : FP} (hok : ∀ w, MakeOk w C fI) (H : SndFc n (.ref fI) init) : SndF (n + 1) (.ref C) (fNew C init) := fun nk c X ℓ σ s Q E vs ds fm dy rs hp => by
  unfold fNew at hp
  obtain ⟨m, F, N, hm⟩ := dy.frE
  refine wpAny_call (make_K (rest := vs) F N (dy.KB fm.G) (hok X.w).m (hok X.w).i (hok X.w).t fun x dx h' F' N' hlt hxd => ?_)
  have hdx : New s.heap dx := new_of dy hlt (N' (dx, _) (.tail _ (.head _))).2.1
  have hx : New s.heap x := new_of dy (fun p hp => Nat.lt_trans (hlt p hp) hxd) (N' (x, _) (.head _)).2.1
  obtain ⟨dyG, kpG, t⟩ := dy.growN (new := [_, _]) hm F' N'
  obtain ⟨dy1, kp1⟩ := dy.addTo (o := .attrs []) dyG kpG hdx ⟨[], 0, (N' (dx, _) (.tail _ (.head _))).1, .nil⟩
  have ndx : dx ≠ x := Nat.ne_of_lt hxd
  have dy2 : Dy X ℓ ((σ.put dx (.attrs [])).put x (.inst C dx)) h' ∧ Kp X.fr [] σ s.heap ((σ.put dx (.attrs [])).put x (.inst C dx)) h' := by
    have new : ∀ b, (σ.put dx (.attrs [])).put x (.inst C dx) b ≠ none → σ b ≠ none ∨ New s.heap b := fun b q => by
      by_cases e : b = x
      · exact .inr (e ▸ hx)
      · rw [St.put_ne e] at q; exact kp1.new b q
    have kp : Kp X.fr [] σ s.heap ((σ.put dx (.attrs [])).put x (.inst C dx)) h' := ⟨kp1.keep, kp1.ns, kp1.live, new, fun b q => St.put_mono b (kp1.mono b q)⟩
    refine ⟨dy.to kp fun b o q => ?_, kp⟩
    by_cases e : b = x
    · subst e; rw [St.put_same] at q; cases q; exact (N' (b, _) (.head _)).1
    · rw [St.put_ne e] at q; exact dy1.rep b o q
  let A' := X.A.under (.builtin "type.__call__" ⟨.ref C :: vs, []⟩)
  have hA : A' = { X.A with depth := X.A.depth + 1, units := X.A.units + 1 } := by
    show X.A.under _ = _
    unfold Around.under
    rfl
  have fm' : Fm nk n c { X with A := A' } := by
    rw [hA]
    exact ⟨fm.G, fm.fr, fm.frames, fm.handled, fm.guards, (by have := fm.depth; show X.A.depth + 1 + n + 4 < _; omega), (by have := fm.units; show X.A.units + 1 + 200 * n + 10 * c + 100 < _; lia), fm.kind, fm.names, fm.globals, fm.builtins⟩
  refine codeAny_mono (H nk c { X with A := A' } ℓ _ { s with heap := h' } _ E (.ref x :: vs) (.ref x :: ds) fm' dy2.1.cA (.cons (.ref _) (rs.keep t)) (hp x dx (dy.fresh hx) (dy.fresh hdx) ndx)) fun r s' p => ?_
  unfold InitBack
  rcases r with e | (v | _ | _ | _)
  · dsimp only at p ⊢
    obtain ⟨C', e', ℓ', σ', h2, tk', rfl, rfl, dy', kp', ex, q⟩ := p
    exact ⟨C', e', ℓ', σ', h2, tk', rfl, rfl, dy'.cA', dy2.2.trans kp', (ex.back dy2.2).of rfl, q⟩
  · exact p.elim
  · exact p.elim
  · exact p.elim
  · dsimp only at p ⊢
    obtain ⟨d, σ', h2, tk', rfl, rv, dy', kp', rfl, q⟩ := p
    cases rv
    exact ⟨rfl, PE.mk (tk' := tk') (.ref _) dy'.cA' (dy2.2.trans kp') q⟩
end Mine
end F_Abs18
section F_Abs19
open PySem PySem.W PySem.Spec PySem.Calls PyProof.Rows
namespace Mine
structure VSrc (w : World) (A : Around) (I : Addr) (n : Nat) (tgt : Expr) (P : Nat → Heap → Value → Prop) (it : Nat → Heap → Prop) (Rest : Heap → Prop) : Prop where
  item : ∀ (i : Nat) (s : Shared) (Q : Value → Shared → Prop) (E : Value → Shared → Prop), i < n → it i s.heap → Rest s.heap →
    (∀ v h' tk, P i h' v → it (i + 1) h' → (∀ b o, b ≠ I → s.heap.get? b = some o → h'.get? b = some o) → Q v { s with heap := h', toks := tk }) →
    wpAny (model prg w) A (pyNext (.ref I)) (fun r s₁ => ∃ v, r = some v ∧ wpAny (model prg w) A (letOwnedTupleGo tgt (.ref I) v) (fun _ s₂ => Q v s₂) E s₁) E s
  done : ∀ (s : Shared) (Q : Option Value → Shared → Prop) (E : Value → Shared → Prop), it n s.heap → Rest s.heap →
    (∀ h' tk, (∀ b o, b ≠ I → s.heap.get? b = some o → h'.get? b = some o) → Q none { s with heap := h', toks := tk }) → wpAny (model prg w) A (pyNext (.ref I)) Q E s
  self : ∀ (i : Nat) (s : Shared) (Q : Value → Shared → Prop) (E : Value → Shared → Prop), it i s.heap → Q (.ref I) s → wpAny (model prg w) A (pyIter (.ref I)) Q E s
  at_ : ∀ i h h' o, it i h → h.get? I = some o → h'.get? I = some o → it i h'
  some_ : ∀ i h, it i h → ∃ o, h.get? I = some o ∧ ∃ vs, o.data = .fields vs
noncomputable def isTgt : Expr → Bool
  | .Name _ _ => true
  | .Tuple _ _ _ => true
  | _ => false
section
variable {w : World} {A : Around} {I : Addr} {tgt : Expr}
theorem go_any {cls : String} (hcl : ["enumerate", "zip", "dict_itemiterator", "dict_reverseitemiterator", "odict_iterator", "itertools.zip_longest", "itertools.pairwise"].contains cls = false) (ht : isTgt tgt = true) {s : Shared} {v : Value} {Q : Unit → Shared → Prop} {E : Value → Shared → Prop}
    (hI : ∃ o, s.heap.get? I = some o ∧ o.cls = .type cls) (hQ : Q () s) : wpAny (model prg w) A (letOwnedTupleGo tgt (.ref I) v) Q E s := by
  cases tgt with
  | Name => exact wpAny_pure hQ
  | Tuple => exact list_go hcl hI hQ
  | _ => exact Bool.noConfusion ht
theorem VSrc.of_walks {n : Nat} {Pw : Nat → Value → Prop} {it : Nat → Heap → Prop} {Rest : Heap → Prop} {fp : List Addr} {cls : String} (W : Walks prg w A I fp [I] n Pw fun i h => it i h ∧ Rest h)
    (hcl : ["enumerate", "zip", "dict_itemiterator", "dict_reverseitemiterator", "odict_iterator", "itertools.zip_longest", "itertools.pairwise"].contains cls = false) (ht : isTgt tgt = true) (hI : ∀ i h, it i h → ∃ o, h.get? I = some o ∧ o.cls = .type cls ∧ ∃ vs, o.data = .fields vs)
    (at_ : ∀ i h h' o, it i h → h.get? I = some o → h'.get? I = some o → it i h') (self : ∀ (i : Nat) (s : Shared) (Q : Value → Shared → Prop) (E : Value → Shared → Prop), it i s.heap → Q (.ref I) s → wpAny (model prg w) A (pyIter (.ref I)) Q E s) :
    VSrc w A I n tgt (fun i _ v => Pw i v) it Rest where
  item := fun i s Q E hi hit hr hQ => W.item i s _ _ hi ⟨hit, hr⟩ fun v h₁ tk hP hst hk => ⟨v, rfl, by
    obtain ⟨o, a, b, _⟩ := hI _ _ hst.1
    exact go_any hcl ht ⟨o, a, b⟩ (hQ v h₁ tk hP hst.1 fun b o n e => hk b o (by simpa using n) e)⟩
  done := fun s Q E hit hr hQ => W.done s Q E ⟨hit, hr⟩ fun h' tk hk => hQ h' tk fun b o n1 e => hk b o (by simpa using n1) e
  self := self
  at_ := at_
  some_ := fun i h hit => by obtain ⟨o, a, _, c⟩ := hI i h hit; exact ⟨o, a, c⟩
theorem vs_list {ax : Addr} (hh : A.handled = none) (hne : ax ≠ I) (items : Array Value) (ht : isTgt tgt = true) :
    VSrc w A I items.size tgt (fun i _ v => items[i]? = some v) (fun i h => h.IsListIter I ax i) (fun h => h.IsList ax items) :=
  .of_walks (cls := "list_iterator") (Walks.list hh I ax hne items) (by decide) ht (fun i h st => by obtain ⟨o, q, c, d⟩ := st; exact ⟨o, q, c, _, d⟩) (fun i h h' o st e e' => by obtain ⟨o', q, r⟩ := st; rw [e] at q; cases q; exact ⟨o, e', r⟩)
    fun i s Q E st hQ => by obtain ⟨o, q, r⟩ := st; exact wpAny_pyIter_listiter ⟨o, q, r⟩ hQ
theorem vs_tuple {ax : Addr} (hh : A.handled = none) (hne : ax ≠ I) (items : Array Value) (ht : isTgt tgt = true) :
    VSrc w A I items.size tgt (fun i _ v => items[i]? = some v) (fun i h => h.IsTupleIter I ax i) (fun h => h.IsTuple ax items) :=
  .of_walks (cls := "tuple_iterator") (Walks.tuple hh I ax hne items) (by decide) ht (fun i h st => by obtain ⟨o, q, c, d⟩ := st; exact ⟨o, q, c, _, d⟩) (fun i h h' o st e e' => by obtain ⟨o', q, r⟩ := st; rw [e] at q; cases q; exact ⟨o, e', r⟩)
    fun i s Q E st hQ => by obtain ⟨o, q, r⟩ := st; exact wpAny_pyIter_tupleiter ⟨o, q, r⟩ hQ
theorem vs_range (hh : A.handled = none) (n : Nat) (ht : isTgt tgt = true) :
    VSrc w A I n tgt (fun i _ v => ∃ t, v = .int (i : Int) t) (fun i h => IsRangeIter h I (i : Int) ((n : Int) - (i : Nat)) 1) (fun _ => True) := by
  have W : Walks prg w A I [I] [I] n (fun i v => ∃ t, v = .int (i : Int) t) (fun i h => IsRangeIter h I (i : Int) ((n : Int) - (i : Nat)) 1 ∧ True) := by
    have W0 := Walks.range (prog := prg) (w := w) hh I 0 1 n
    simp only [Int.zero_add, Int.mul_one] at W0
    exact walks_st W0 fun i h => ⟨fun x => x.1, fun x => ⟨x, trivial⟩⟩
  exact .of_walks (cls := "range_iterator") W (by decide) ht (fun i h st => ⟨_, st, rfl, _, rfl⟩) (fun i h h' o st e e' => by rw [st] at e; cases e; exact e') fun i s Q E st hQ => wpAny_pyIter_rangeiter st hQ
theorem vs_vals {d : Addr} {es : Array DictEntry} {ep : Nat} (hh : A.handled = none) (hne : d ≠ I) (ht : isTgt tgt = true) :
    VSrc w A I es.size tgt (fun i _ v => (es.toList.map (·.val))[i]? = some v) (fun i h => h.IsValIter I d i es.size ep) (fun h => DEnt h d es ep) := by
  have W0 : Walks prg w A I [I, d] [I] es.size (fun i v => (es.toList.map (·.val))[i]? = some v) (fun i h => h.IsValIter I d i es.size ep ∧ DEnt h d es ep) :=
    { sub := fun b hb => by simp at hb; simp [hb]
      frame := fun _ _ _ st hk => ⟨by obtain ⟨o, q, r⟩ := st.1; exact ⟨o, hk I (by simp) o q, r⟩, st.2.at_ fun o e => hk d (by simp) o e⟩
      item := fun i s Q E hi st hQ => next_valiter st.1 st.2 hi fun h' hit' hs' => hQ _ h' s.toks (by simp [hi]) ⟨hit', st.2.at_ fun o e => hs'.extBut _ _ hne e⟩ fun b o hb e => hs'.extBut b o (fun h => hb (by simp [h])) e
      done := fun s Q E st hQ => end_valiter hh st.1 st.2 fun h' he' => hQ h' s.toks fun b o hb e => he' b o (fun h => hb (by simp [h])) e
      self := fun _ _ _ _ st hQ => self_valiter st.1 hQ }
  exact .of_walks (cls := "dict_valueiterator") W0 (by decide) ht (fun i h st => by obtain ⟨o, q, c, d⟩ := st; exact ⟨o, q, c, _, d⟩) (fun i h h' o st e e' => by obtain ⟨o', q, r⟩ := st; rw [e] at q; cases q; exact ⟨o, e', r⟩) fun i s Q E st hQ => self_valiter st hQ
theorem vs_items {d : Addr} {es : Array DictEntry} {ep : Nat} {elts : List Expr} {k : Nat} {px : Pos} (hh : A.handled = none) (hne : d ≠ I) :
    VSrc w A I es.size (.Tuple elts k px) (fun i h v => ∃ e T, es[i]? = some e ∧ v = .ref T ∧ h.IsTuple T #[e.key, e.val]) (fun i h => ∃ ok ov, IsItemIter h I d i es.size ep ok ov) (fun h => DEnt h d es ep) where
  item := by
    intro i s Q E hi hit hr hQ
    obtain ⟨ok, ov, hit⟩ := hit
    refine next_itemiter hit hr hi fun h₁ ho₁ ht₁ hk₁ => ⟨_, rfl, ?_⟩
    refine wpAny_letOwnedTupleGo_items ho₁ fun h₂ he₂ hs₂ => ?_
    have hTI : s.heap.objs.size ≠ I := Nat.ne_of_gt (Heap.lt_size hit)
    have ht₂ : h₂.IsTuple s.heap.objs.size #[es[i].key, es[i].val] := ⟨_, hs₂.extBut _ _ hTI ht₁, rfl, _, rfl⟩
    exact hQ _ h₂ _ ⟨es[i], _, by simp [hi], rfl, ht₂⟩ ⟨_, _, he₂⟩ fun b o n e => hs₂.extBut _ _ n (hk₁ b o n e)
  done := fun s Q E hit hr hQ => by
    obtain ⟨ok, ov, hit⟩ := hit
    exact end_itemiter hh hit hr fun h' he => hQ h' s.toks fun b o n1 e => he b o n1 e
  self := fun i s Q E hit hQ => by
    obtain ⟨ok, ov, hit⟩ := hit
    exact self_itemiter hit hQ
  at_ := fun i h h' o hit e e' => by
    obtain ⟨ok, ov, hit⟩ := hit
    rw [hit] at e; cases e
    exact ⟨ok, ov, e'⟩
  some_ := fun i h hit => by obtain ⟨ok, ov, hit⟩ := hit; exact ⟨_, hit, _, rfl⟩
end
inductive Tgt | nm (k : NK) (x : Str) | tp (ks : List (NK × Str))
noncomputable def tgtP : Tgt → D → Lc → St → (Lc → St → Prop) → Prop
  | .nm k x, d, ℓ, σ, N => sSet k x d ℓ σ N
  | .tp ks, d, ℓ, σ, N => ∃ ds, unp d σ ds ∧ ds.length = ks.length ∧ sSets ks ds ℓ σ N
inductive TgtOk (nk : Str → Option NK) : Tgt → Expr → Prop
  | nm {k x p} : nk x = some k → TgtOk nk (.nm k x) (.Name x p)
  | tp {ks es k p} : NmT es ks → KsOk nk ks → TgtOk nk (.tp ks) (.Tuple es k p)
theorem TgtOk.is {nk t e} (h : TgtOk nk t e) : isTgt e = true := by cases h <;> rfl
theorem tgt_ok {nk n c} {X : Cx} {ℓ : Lc} {σ1 : St} {s : Shared} {h1 : Heap} {tk1 : Nat} {N : Lc → St → Prop} {E : Value → Shared → Prop} {t e v d} {Q : Unit → Shared → Prop} (fm : Fm nk n c X) (ht : TgtOk nk t e) (dy : Dy X ℓ σ1 h1) (rd : VR h1 v d) (hp : tgtP t d ℓ σ1 N)
    (hQ : ∀ ℓ2 σ2 h2 tk2, Dy X ℓ2 σ2 h2 → Kp X.fr [X.env.locals] σ1 h1 σ2 h2 → TupK h1 h2 → N ℓ2 σ2 → Q () { s with heap := h2, toks := tk2 }) :
    wpAny (model prg X.w) X.A (assign e X.env v) Q E { s with heap := h1, toks := tk1 } := by
  cases ht with
  | nm hx => exact wpAny_assign_Name (store_ok fm dy hx rd hp hQ)
  | tp he hk =>
    obtain ⟨ds, hu, hl, hp⟩ := hp
    exact assignT_ok fm he hk dy rd hu hl hp hQ
inductive SrcD (σ : St) : D → List D → Option Addr → Prop
  | list {a xs} : σ a = some (.list xs) → xs.length ≤ 100000 → SrcD σ (.ref a) xs (some a)
  | tup {xs} : xs.length ≤ 100000 → SrcD σ (.tup xs) xs none
  | range {a n} : σ a = some (.range n) → n ≤ 100 → SrcD σ (.ref a) ((List.range n).map fun (i : Nat) => D.int (i : Int)) none
  | vals {a d es} : σ a = some (.vals d) → σ d = some (.dict es) → es.length ≤ 100000 → SrcD σ (.ref a) (es.map (·.2)) (some d)
  | items {a d es} : σ a = some (.items d) → σ d = some (.dict es) → es.length ≤ 100000 → SrcD σ (.ref a) (es.map fun e => .tup [kyD e.1, e.2]) (some d)
noncomputable def St.frz (σ : St) : Option Addr → St
  | none => σ
  | some a => fun b => if b = a then none else σ b
noncomputable def St.thaw (σ σ0 : St) : Option Addr → St
  | none => σ
  | some a => fun b => if b = a then σ0 a else σ b
end Mine
end F_Abs19
section F_Abs20
open PySem PySem.W PySem.Spec PySem.Calls PyProof.Rows
namespace Mine
theorem vrs_ints {h : Heap} : ∀ {ns : List Int} {vs : List Value}, Rds h vs (ns.map .int) → VRs h vs (ns.map .int)
  | [], vs, r => by rw [r.nil_inv]; exact .nil
  | n :: ns, vs, r => by
    obtain ⟨v, r', rfl, p, q⟩ := r.cons_inv
    obtain ⟨t, rfl⟩ := p.int_inv
    exact .cons (.int _ _) (vrs_ints q)
theorem vr_of_ky {h : Heap} {k : Ky} {a : Addr} (x : isKy h k a) : VR h (.ref a) (kyD k) := by
  obtain ⟨o, vs, n, q, t1, t2, t3, h1, h2, h3, h4, h5⟩ := x.open
  obtain ⟨b, o', ws, n', e, g1, g2, g3, g4⟩ := h5.tup_inv
  cases e
  exact .tup h1 h2 h3 (by rw [h4]; exact .cons (.tup g1 g2 g3 (vrs_ints g4)) (.cons (.int _ _) (.cons (.int _ _) (.cons (.int _ _) .nil))))
theorem DRows.at {h xs es} (r : DRows h xs es) {i : Nat} {k a v} (e : xs[i]? = some (k, a, v)) : ∃ d, es[i]? = some (k, d) ∧ VR h v d := by
  induction r generalizing i with
  | nil => simp at e
  | @cons k' a' v' d xs es x _ ih =>
    cases i with
    | zero => simp only [List.getElem?_cons_zero, Option.some.injEq, Prod.mk.injEq] at e ⊢; obtain ⟨rfl, rfl, rfl⟩ := e; exact ⟨d, ⟨rfl, rfl⟩, x⟩
    | succ i => simp only [List.getElem?_cons_succ] at e ⊢; exact ih e
theorem VRs.at {h vs ds} (x : VRs h vs ds) {i : Nat} {v} (e : vs[i]? = some v) : ∃ d, ds[i]? = some d ∧ VR h v d := by
  induction ds generalizing vs i with
  | nil => cases x; simp at e
  | cons d ds ih =>
    cases x with
    | cons p q =>
      cases i with
      | zero => simp only [List.getElem?_cons_zero, Option.some.injEq] at e; subst e; exact ⟨d, rfl, p⟩
      | succ i => exact ih q (by simpa using e)
section
variable {nk : Str → Option NK} {n c : Nat} {X : Cx} {ℓ : Lc} {σ1 : St} {s : Shared} {h1 : Heap} {tk1 : Nat} {E : Value → Shared → Prop}
theorem iter_ok {d : D} {v : Value} {xs : List D} {fz : Option Addr} {tgt : Expr} {Q : Value → Shared → Prop} (fm : Fm nk n c X) (dy : Dy X ℓ σ1 h1) (hs : SrcD σ1 d xs fz) (rv : VR h1 v d) (ht : isTgt tgt = true) (hti : (∃ a, d = .ref a ∧ ∃ d', σ1 a = some (.items d')) → ∃ es k p, tgt = .Tuple es k p)
    (hQ : ∀ (o : Obj) (len : Nat) (P : Nat → Heap → Value → Prop) (it : Nat → Heap → Prop) (Rest : Heap → Prop), len = xs.length → VSrc X.w X.A h1.objs.size len tgt P it Rest → it 0 (h1.push o) → xs.length ≤ 100000 →
      (∀ h, (∀ a ob, fz = some a → h1.get? a = some ob → h.get? a = some ob) → TupK h1 h → Rest h) → (∀ i h v, i < len → P i h v → TupK h1 h → ∃ x, xs[i]? = some x ∧ VR h v x) → Q (.ref h1.objs.size) { s with heap := h1.push o, toks := tk1 }) :
    wpAny (model prg X.w) X.A (pyIter v) Q E { s with heap := h1, toks := tk1 } := by
  cases hs with
  | @list a xs ha hz =>
    cases rv.ref_inv
    obtain ⟨o, vs, k, g1, g2, g3, g4⟩ := dy.rep _ _ ha
    have hl : h1.IsList a vs := ⟨o, g1, g2, k, g3⟩
    have hne : a ≠ h1.objs.size := Nat.ne_of_lt (Heap.lt_size g1)
    have hsz : vs.size = xs.length := (Array.length_toList (xs := vs)).symm.trans g4.length
    refine wpAny_pyIter_list (s := { s with heap := h1, toks := tk1 }) hl (hQ _ _ _ _ _ hsz (vs_list (tgt := tgt) fm.handled hne vs ht) ⟨_, Heap.get?_push_size _ rfl, rfl, rfl⟩ hz (fun h k _ => ⟨o, k a o rfl g1, g2, _, g3⟩) fun i h v hi0 hv t => ?_)
    obtain ⟨x, e, r⟩ := g4.at (by rw [Array.getElem?_toList]; exact hv)
    exact ⟨x, e, r.keep t⟩
  | @tup xs hz =>
    obtain ⟨a, o, vs, k, rfl, g1, g2, g3, g4⟩ := rv.tup_inv
    have hl : h1.IsTuple a vs := ⟨o, g1, g2, k, g3⟩
    have hne : a ≠ h1.objs.size := Nat.ne_of_lt (Heap.lt_size g1)
    have hsz : vs.size = xs.length := (Array.length_toList (xs := vs)).symm.trans g4.length
    refine wpAny_pyIter_tuple (s := { s with heap := h1, toks := tk1 }) hl (hQ _ _ _ _ _ hsz (vs_tuple (tgt := tgt) fm.handled hne vs ht) ⟨_, Heap.get?_push_size _ rfl, rfl, rfl⟩ hz (fun h _ t => ⟨o, t a o g2 ⟨_, _, g3⟩ g1, g2, _, g3⟩) fun i h v hi0 hv t => ?_)
    obtain ⟨x, e, r⟩ := g4.at (by rw [Array.getElem?_toList]; exact hv)
    exact ⟨x, e, r.keep t⟩
  | @range a k ha hz =>
    cases rv.ref_inv
    obtain ⟨t, u, w, hr⟩ := dy.rep _ _ ha
    have hsm : Builtin.Range.small 0 (k : Int) 1 = true := range_small k hz
    have hrs : Builtin.Range.rangeSize 0 (k : Int) 1 = k := by rw [rangeSize_nat]; simp
    have hlen : ((List.range k).map fun (i : Nat) => D.int (i : Int)).length = k := by simp
    refine wpAny_pyIter_range (s := { s with heap := h1, toks := tk1 }) hr hsm (hQ _ _ _ _ _ hlen.symm (vs_range (tgt := tgt) fm.handled k ht) ?_ (by rw [hlen]; lia) (fun _ _ _ => trivial) fun i h v hi0 hv t => ?_)
    · rw [hrs]
      show IsRangeIter _ _ _ _ _
      unfold IsRangeIter
      simpa using Heap.get?_push_size _ rfl
    · obtain ⟨t', rfl⟩ := hv
      exact ⟨.int (i : Int), by rw [List.getElem?_map, List.getElem?_range hi0]; rfl, .int _ _⟩
  | @vals a d' es ha hd hz =>
    cases rv.ref_inv
    obtain ⟨o, g1, g2, g3⟩ := dy.rep _ _ ha
    obtain ⟨xs', hx, rx⟩ := dy.rep _ _ hd
    obtain ⟨des, ep, Dd, hes⟩ := dEnt_of hx
    obtain ⟨od, hod, hor⟩ := id Dd
    have hne : d' ≠ h1.objs.size := Nat.ne_of_lt (Heap.lt_size hod)
    have hlen : des.size = (es.map (·.2)).length := by rw [size_of_entries hes, rx.length, List.length_map]
    refine iter_values (s := { s with heap := h1, toks := tk1 }) ⟨o, g1, g2, g3⟩ Dd (hQ _ _ _ _ _ hlen (vs_vals (tgt := tgt) (es := des) (ep := ep) fm.handled hne ht) ⟨_, Heap.get?_push_size _ rfl, rfl, rfl⟩ (by rw [List.length_map]; exact hz) (fun h k _ => ⟨od, k d' od rfl hod, hor⟩) fun i h v hi0 hv t => ?_)
    rw [hes, List.map_map, List.getElem?_map, Option.map_eq_some_iff] at hv
    obtain ⟨⟨k, a, v'⟩, hi, e⟩ := hv
    obtain ⟨x, h2, r⟩ := rx.at hi
    exact ⟨x, by rw [List.getElem?_map, h2]; rfl, by rw [← e]; exact r.keep t⟩
  | @items a d' es ha hd hz =>
    cases rv.ref_inv
    obtain ⟨o, g1, g2, g3⟩ := dy.rep _ _ ha
    obtain ⟨xs', hx, rx⟩ := dy.rep _ _ hd
    obtain ⟨des, ep, Dd, hes⟩ := dEnt_of hx
    obtain ⟨od, hod, hor⟩ := id Dd
    obtain ⟨es2, k2, p2, rfl⟩ := hti ⟨_, rfl, _, ha⟩
    have hne : d' ≠ h1.objs.size := Nat.ne_of_lt (Heap.lt_size hod)
    have hlen : des.size = (es.map fun e => D.tup [kyD e.1, e.2]).length := by rw [size_of_entries hes, rx.length, List.length_map]
    refine iter_items (s := { s with heap := h1, toks := tk1 }) ⟨o, g1, g2, g3⟩ Dd (hQ _ _ _ _ _ hlen (vs_items (es := des) (ep := ep) fm.handled hne) ⟨_, _, Heap.get?_push_size _ rfl⟩ (by rw [List.length_map]; exact hz) (fun h k _ => ⟨od, k d' od rfl hod, hor⟩) fun i h v hi0 hv t => ?_)
    obtain ⟨e, T, he, rfl, hT⟩ := hv
    rw [entry_at hes i, Option.map_eq_some_iff] at he
    obtain ⟨⟨k, a, v'⟩, hi, rfl⟩ := he
    obtain ⟨x, h2, r⟩ := rx.at hi
    refine ⟨_, by rw [List.getElem?_map, h2]; rfl, ?_⟩
    obtain ⟨oT, hT1, hT2, nT, hT3⟩ := hT
    have hky : isKy h1 k a := by
      obtain ⟨_, _, _, _, _, _, _, hi', _⟩ := hx
      exact hi' _ (List.mem_of_getElem? hi)
    exact .tup hT1 hT2 hT3 (.cons ((vr_of_ky hky).keep t) (.cons (r.keep t) .nil))
end
end Mine
end F_Abs20
section F_Abs21
open PySem PySem.W PySem.Spec PySem.Calls PyProof.Rows
namespace Mine
noncomputable def forP (t : Tgt) (B : SP) : List D → SP
  | [], ℓ, σ, N, _, _ => N ℓ σ
  | x :: xs, ℓ, σ, N, R, E => tgtP t x ℓ σ fun ℓ1 σ1 => B ℓ1 σ1 (fun ℓ2 σ2 => forP t B xs ℓ2 σ2 N R E) R E
noncomputable def NotItems (d : D) (σ : St) : Prop := ∀ a d', d = .ref a → σ a ≠ some (.items d')
noncomputable def Tgt.okS (t : Tgt) (d : D) (σ : St) : Prop := match t with | .nm _ _ => NotItems d σ | .tp _ => True
noncomputable def sFor (t : Tgt) (P : EvP) (B : SP) : SP := fun ℓ σ N R E => P ℓ σ (fun d σ1 => t.okS d σ1 ∧ ∃ xs fz, SrcD σ1 d xs fz ∧
  forP t B xs ℓ (σ1.frz fz) (fun ℓ' σ' => N ℓ' (σ'.thaw σ1 fz)) (fun r σ' => R r (σ'.thaw σ1 fz)) (fun C σ' => E C (σ'.thaw σ1 fz))) E
theorem SrcD.fz {σ d xs fz} (h : SrcD σ d xs fz) : ∀ a, fz = some a → σ a ≠ none := by
  intro a e
  cases h with
  | list h _ => cases e; rw [h]; simp
  | tup => cases e
  | range => cases e
  | vals _ h _ => cases e; rw [h]; simp
  | items _ h _ => cases e; rw [h]; simp
section
variable {nk : Str → Option NK} {n c : Nat} {X : Cx} {ℓ ℓ' : Lc} {σ σ1 σ' : St} {h h1 h' : Heap} {fz : Option Addr} {xs : List Addr}
theorem Dy.frz (y : Dy X ℓ σ h) : Dy X ℓ (σ.frz fz) h := by
  have le : ∀ a o, σ.frz fz a = some o → σ a = some o := fun a o e => by
    unfold St.frz at e
    cases fz with
    | none => exact e
    | some b => dsimp only at e; split at e <;> first | exact e | cases e
  refine ⟨y.stays, y.two, y.frames, fun L hL => ?_, y.offL, y.own, y.cel, fun a q => ?_, fun a o e => y.rep a o (le a o e)⟩
  · cases q : σ.frz fz L with
    | none => rfl
    | some o => have := y.off L hL; rw [le _ _ q] at this; cases this
  · cases p : σ.frz fz a with
    | none => exact absurd p q
    | some o => exact y.low a (by rw [le _ _ p]; simp)
theorem frz_none {a : Addr} (h : σ a = none) : σ.frz fz a = none := by
  unfold St.frz
  cases fz with
  | none => exact h
  | some b => dsimp only; split <;> first | rfl | exact h
theorem frz_at {a : Addr} (h : fz = some a) : σ.frz fz a = none := by subst h; simp [St.frz]
theorem frz_ne {a : Addr} (h : fz ≠ some a) : σ.frz fz a = σ a := by
  unfold St.frz
  cases fz with
  | none => rfl
  | some b => dsimp only; rw [if_neg (fun q => h (by rw [q]))]
theorem thaw_at {a : Addr} (h : fz = some a) : σ'.thaw σ fz a = σ a := by subst h; simp [St.thaw]
theorem thaw_ne {a : Addr} (h : fz ≠ some a) : σ'.thaw σ fz a = σ' a := by
  unfold St.thaw
  cases fz with
  | none => rfl
  | some b => dsimp only; rw [if_neg (fun q => h (by rw [q]))]
theorem thaw_ok (y : Dy X ℓ σ1 h1) (hf : ∀ a, fz = some a → σ1 a ≠ none) (y' : Dy X ℓ' σ' h') (kp : Kp X.fr xs (σ1.frz fz) h1 σ' h') (hx : ∀ a ∈ xs, a ∈ X.fr) : Dy X ℓ' (σ'.thaw σ1 fz) h' ∧ Kp X.fr xs σ1 h1 (σ'.thaw σ1 fz) h' := by
  have t : TupK h1 h' := kp.tupK y.frz hx
  have offz : ∀ a, fz = some a → a ∉ X.fr := fun a e q => hf a e (y.off a q)
  have keepz : ∀ a, fz = some a → ∀ o, h1.get? a = some o → h'.get? a = some o := fun a e o ho => kp.keep a o ho (frz_at e) (offz a e) fun q => offz a e (hx a q)
  refine ⟨⟨y'.stays, y'.two, y'.frames, fun L hL => ?_, y'.offL, y'.own, y'.cel, fun a q => ?_, fun a o e => ?_⟩, ⟨fun a o e n1 n2 n3 => kp.keep a o e (frz_none n1) n2 n3, fun a m hn n1 n2 n3 => kp.ns a m hn (frz_none n1) n2 n3, kp.live, fun a q => ?_, fun a q => ?_⟩⟩
  · rw [thaw_ne fun e => offz L e hL]; exact y'.off L hL
  · by_cases e : fz = some a
    · exact y.low a (hf a e)
    · rw [thaw_ne e] at q; exact y'.low a q
  · by_cases e' : fz = some a
    · rw [thaw_at e'] at e; exact (y.rep a o e).keep t (keepz a e')
    · rw [thaw_ne e'] at e; exact y'.rep a o e
  · by_cases e : fz = some a
    · exact .inl (hf a e)
    · rw [thaw_ne e] at q
      rcases kp.new a q with z | z
      · rw [frz_ne e] at z; exact .inl z
      · exact .inr z
  · by_cases e : fz = some a
    · rw [thaw_at e]; exact q
    · rw [thaw_ne e]; exact kp.mono a (by rw [frz_ne e]; exact q)
end
section
variable {nk : Str → Option NK} {n c : Nat} {X : Cx} {ℓ : Lc} {σf : St} {s : Shared} {h1 h2 : Heap} {tk1 tk2 : Nat} {N : Lc → St → Prop} {R : D → St → Prop} {E : Addr → St → Prop}
theorem loop_ok {t : Tgt} {tgt : Expr} {body : List Stmt} {B : SP} {I : Addr} {len : Nat} {P : Nat → Heap → Value → Prop} {it : Nat → Heap → Prop} {Rest : Heap → Prop} {xs : List D} {fz : Option Addr} (fs : Fs nk n c X) (ht : TgtOk nk t tgt) (HB : SndSs nk n c body B)
    (dy1 : Dy X ℓ σf h1) (up : ∀ a o, h1.get? a = some o → h2.get? a = some o) (hI : New h1 I) (hIf : I ∉ X.fr) (hlen : len = xs.length) (S : VSrc X.w X.A I len tgt P it Rest) (h0 : it 0 h2)
    (hfz : ∀ a, fz = some a → σf a = none ∧ a ∉ X.fr) (hR : ∀ h, (∀ a ob, fz = some a → h1.get? a = some ob → h.get? a = some ob) → TupK h1 h → Rest h) (hP : ∀ i h v, i < len → P i h v → TupK h1 h → ∃ x, xs[i]? = some x ∧ VR h v x)
    (hp : forP t B xs ℓ σf N R E) :
    codeAny (model prg X.w) X.A (.forLoop tgt (.ref I) body [] X.env) (fun r s' => match r with | .ok f => PS X σf { s with heap := h1, toks := tk1 } N R f s' | .error e => cameBackBy (model prg X.w) X.A X.env (PX X [X.env.locals] σf { s with heap := h1, toks := tk1 } E) e s') { s with heap := h2, toks := tk2 } := by
  let Inv : Nat → Shared → Prop := fun k s' => ∃ h tk i ℓ' σ', s' = { s with heap := h, toks := tk } ∧ i ≤ len ∧ k = len + 1 - i ∧ it i h ∧ Dy X ℓ' σ' h ∧ Kp X.fr [X.env.locals] σf h1 σ' h ∧ σ' I = none ∧ forP t B (xs.drop i) ℓ' σ' N R E
  obtain ⟨dy2, kp2, _⟩ := dy1.grow up
  have hL : X.env.locals ∈ X.fr := .head _
  refine codeAny_forLoop_any Inv ?_ (len + 1) ⟨h2, tk2, 0, ℓ, σf, rfl, Nat.zero_le _, rfl, h0, dy2, kp2.more nilSub, dy1.fresh hI, by simpa using hp⟩
  rintro k s' ⟨h, tk, i, ℓ', σ', rfl, hi, rfl, hit, dy, kp, hσI, hp'⟩
  have tk1' : TupK h1 h := kp.tupK dy1 locSub
  have hrest : Rest h := hR h (fun a ob e ho => kp.keep a ob ho (hfz a e).1 (hfz a e).2 fun q => (hfz a e).2 (locSub a q)) tk1'
  obtain ⟨oI, hoI, vI, hdI⟩ := S.some_ _ _ hit
  by_cases hlt : i < len
  · have hx : i < xs.length := hlen ▸ hlt
    have hdrop : xs.drop i = xs[i] :: xs.drop (i + 1) := List.drop_eq_getElem_cons hx
    rw [hdrop] at hp'
    have es : EsOk X σ' h [I] := ⟨fun a ha => by
      rw [List.mem_singleton.mp ha]
      refine ⟨hσI, ?_, oI, hoI, notSeq_fields hdI⟩
      cases q : X.hB.get? I with
      | none => rfl
      | some o => have := dy1.stays _ _ q; rw [hI.1] at this; cases this⟩
    refine wpAny_mono (S.item i { s with heap := h, toks := tk } (fun v s₂ => wpAny (model prg X.w) X.A (assign tgt X.env v) (fun _ s₂ => wpAny (model prg X.w) X.A (execs body X.env) (fun f s₃ => match f with
            | .next | .cont => ∃ k, k < len + 1 - i ∧ Inv k s₃
            | .brk => PS X σf { s with heap := h1, toks := tk1 } N R .next s₃
            | .ret v => PS X σf { s with heap := h1, toks := tk1 } N R (.ret v) s₃) (notedBy (model prg X.w) X.A X.env fun e s' => cameBackBy (model prg X.w) X.A X.env (PX X [X.env.locals] σf { s with heap := h1, toks := tk1 } E) e s') s₂) (notedBy (model prg X.w) X.A X.env fun e s' => cameBackBy (model prg X.w) X.A X.env (PX X [X.env.locals] σf { s with heap := h1, toks := tk1 } E) e s') s₂) _ hlt hit hrest fun v h3 tk3 hPv hit3 hk3 => ?_) (fun r s₁ hr => ?_) fun _ _ e => e
    · obtain ⟨oI3, hoI3, vI3, hdI3⟩ := S.some_ _ _ hit3
      have w3 : Wd X [I] h h3 := ⟨fun a o e _ n => hk3 a o (fun q => n (q ▸ .head _)) e, fun a m q hn => hn.at' fun o e => hk3 a o (fun z => hIf (z ▸ q)) e, fun a o e n => by
        by_cases q : a = I
        · subst q; exact ⟨_, hoI3⟩
        · exact ⟨o, hk3 a o q e⟩⟩
      have dy3 := w3.dy dy es
      have kp3 := w3.kp kp fun a ha => by rw [List.mem_singleton.mp ha]; exact hI.1
      have t3 : TupK h1 h3 := kp3.tupK dy1 locSub
      obtain ⟨x, hx', rv⟩ := hP i h3 v hlt hPv t3
      have ex : x = xs[i] := by rw [List.getElem?_eq_getElem hx] at hx'; exact (Option.some.inj hx').symm
      subst ex
      refine tgt_ok fs.toFm ht dy3 rv hp' fun ℓ4 σ4 h4 tk4 dy4 kp4 t4 hp4 => ?_
      have hoI4 := kp4.keep I oI3 hoI3 hσI hIf fun q => hIf (locSub I q)
      have hσI4 := kp4.none_ hoI3 hσI
      refine wpAny_mono (HB X ℓ4 σ4 { s with heap := h4, toks := tk4 } _ R E fs dy4 hp4) (fun f s₃ p => ?_) fun e s₃ p => ?_
      · rcases p with ⟨rfl, ℓ5, σ5, h5, tk5, rfl, dy5, kp5, hp5⟩ | ⟨v, d, ℓ5, σ5, h5, tk5, rfl, rfl, vr, dy5, kp5, hp5⟩
        · exact ⟨len + 1 - (i + 1), by omega, h5, tk5, i + 1, ℓ5, σ5, rfl, hlt, rfl, S.at_ _ _ _ _ hit3 hoI3 (kp5.keep I oI3 hoI4 hσI4 hIf fun q => hIf (locSub I q)), dy5, (kp3.trans kp4).trans kp5, kp5.none_ hoI4 hσI4, hp5⟩
        · exact PS.ret vr dy5 ((kp3.trans kp4).trans kp5) hp5
      · obtain ⟨C, e', ℓ5, σ5, h5, tk5, rfl, rfl, dy5, kp5, ex5, hq⟩ := p
        refine note_ok (A := X.A) (s := s) (xs := [X.env.locals]) (σ0 := σf) (h0 := h1) fs.toFm fs.frames dy5 ((kp3.trans kp4).trans kp5) (ex5.back (kp3.trans kp4)) fun h6 tk6 dy6 kp6 ex6 => ?_
        exact back_ok (s := s) (xs := [X.env.locals]) (σ0 := σf) (h0 := h1) dy6 kp6 ex6 fun h7 tk7 dy7 kp7 ex7 => ⟨C, e', ℓ5, σ5, h7, tk7, rfl, rfl, dy7, kp7, ex7.at, hq⟩
    · obtain ⟨v, rfl, hv⟩ := hr
      exact hv
  · obtain rfl : i = len := by lia
    have es : EsOk X σ' h [I] := ⟨fun a ha => by
        rw [List.mem_singleton.mp ha]
        refine ⟨hσI, ?_, oI, hoI, notSeq_fields hdI⟩
        cases q : X.hB.get? I with
        | none => rfl
        | some o => have := dy1.stays _ _ q; rw [hI.1] at this; cases this⟩
    refine S.done _ _ _ hit hrest fun h3 tk3 hk3 => wpAny_execs_nil ?_
    have w3 : Wd X [I] h h3 := ⟨fun a o e _ n => hk3 a o (fun q => n (q ▸ .head _)) e, fun a m q hn => hn.at' fun o e => hk3 a o (fun z => hIf (z ▸ q)) e, fun a o e n => ⟨o, hk3 a o (fun q => n (q ▸ .head _)) e⟩⟩
    have hnil : xs.drop i = [] := List.drop_eq_nil_of_le (Nat.le_of_eq hlen.symm)
    rw [hnil] at hp'
    exact PS.next (w3.dy dy es) (w3.kp kp fun a ha => by rw [List.mem_singleton.mp ha]; exact hI.1) hp'
theorem cameBackBy_mono {A : Around} {env : Env} {E E' : Value → Shared → Prop} {e : Value} {s' : Shared} (h : ∀ v s, E v s → E' v s) (x : cameBackBy (model prg X.w) A env E e s') : cameBackBy (model prg X.w) A env E' e s' := by
  unfold cameBackBy at x ⊢
  exact wpAny_mono x (fun _ _ p => h _ _ p) fun _ _ p => h _ _ p
theorem ExcAt.thaw {σ1 σ' : St} {h h' : Heap} {fz : Option Addr} {C e} (hf : ∀ a, fz = some a → ∃ o, h.get? a = some o) (x : ExcAt X h h' σ' C e) : ExcAt X h h' (σ'.thaw σ1 fz) C e := by
  have k : ∀ a, New h a → (σ'.thaw σ1 fz) a = σ' a := fun a n => thaw_ne fun q => by obtain ⟨o, e⟩ := hf a q; rw [n.1] at e; cases e
  obtain ⟨oe, vs, a1, a2, a3, a4, a5, ⟨a6, a6'⟩, a7⟩ := x
  refine ⟨oe, vs, a1, a2, a3, a4, a5, ⟨(k e a5).trans a6, a6'⟩, ?_⟩
  rcases a7 with a7 | ⟨T, oT, ts, b1, b2, b3, b4, b5, b6, b7, b8⟩
  · exact .inl a7
  · exact .inr ⟨T, oT, ts, b1, b2, b3, b4, b5, b6, (k T b6).trans b7, b8⟩
theorem NotItems.to {t : Tgt} {tgt : Expr} {d : D} {σ : St} (ht : TgtOk nk t tgt) (h : t.okS d σ) : (∃ a, d = .ref a ∧ ∃ d', σ a = some (.items d')) → ∃ es k p, tgt = .Tuple es k p := by
  rintro ⟨a, rfl, d', e⟩
  cases ht with
  | nm => exact absurd e (h a d' rfl)
  | tp => exact ⟨_, _, _, rfl⟩
theorem SndS.for_ {t : Tgt} {tgt it : Expr} {body : List Stmt} {P : EvP} {B : SP} {pos : Pos} (ht : TgtOk nk t tgt) (H : SndE nk n c it P) (HB : SndSs nk n c body B) (hfs : ∀ env x, foldedSetIterable it env x = pure x) : SndS nk n c (.For tgt it body [] pos) (sFor t P B) := by
  intro X ℓ σ s N R E fs dy hp
  refine wpAny_For ?_ fun x => hfs X.env x
  refine H.run fs.toFm dy (xs := [X.env.locals]) Kp.refl hp fun v d σ1 h1 tk1 rv dy1 _ kp1 _ ⟨hok, xs, fz, hs, hl⟩ => ?_
  have dyf : Dy X ℓ (σ1.frz fz) h1 := dy1.frz
  have hfz : ∀ a, fz = some a → σ1.frz fz a = none ∧ a ∉ X.fr := fun a e => ⟨frz_at e, fun q => hs.fz a e (dy1.off a q)⟩
  have hf : ∀ a, fz = some a → ∃ o, h1.get? a = some o := fun a e => by
    cases q : σ1 a with
    | none => exact absurd q (hs.fz a e)
    | some o => obtain ⟨ob, z, _⟩ := (dy1.rep a o q).some_; exact ⟨ob, z⟩
  refine iter_ok fs.toFm dy1 hs rv ht.is (NotItems.to ht hok) fun o len P' it' Rest hlen S h0 hsz hR hP => ?_
  have hI : New h1 h1.objs.size := dy1.newA
  refine codeAny_mono (loop_ok (s := s) (tk1 := tk1) fs ht HB dyf (fun a o e => Heap.get?_push_of_some _ e) hI (fun q => by
    obtain ⟨m, ⟨o, _, _, e, _⟩, _⟩ := dy1.frD q
    rw [hI.1] at e; cases e) hlen S h0 hfz hR hP hl) fun r s' hr => ?_
  cases r with
  | ok f =>
    rcases hr with ⟨rfl, ℓ', σ', h', tk', rfl, dy', kp', q⟩ | ⟨v, d, ℓ', σ', h', tk', rfl, rfl, vr, dy', kp', q⟩
    · obtain ⟨dy2, kp2⟩ := thaw_ok dy1 hs.fz dy' kp' locSub
      exact PS.next dy2 (kp1.trans kp2) q
    · obtain ⟨dy2, kp2⟩ := thaw_ok dy1 hs.fz dy' kp' locSub
      exact PS.ret vr dy2 (kp1.trans kp2) q
  | error e =>
    refine cameBackBy_mono (fun v s' p => ?_) hr
    obtain ⟨C, e, ℓ', σ', h', tk', rfl, rfl, dy', kp', ex, q⟩ := p
    obtain ⟨dy2, kp2⟩ := thaw_ok dy1 hs.fz dy' kp' locSub
    exact ⟨C, e, ℓ', _, h', tk', rfl, rfl, dy2, kp1.trans kp2, (ex.thaw hf).back kp1, q⟩
end
end Mine
end F_Abs21
section F_Abs22
open PySem PySem.W PySem.Spec PySem.Calls PyProof.Rows
namespace Mine
noncomputable def cloOf (cells : List (Str × Addr)) : List (Str × NameKind) → List (Str × Addr) → Option (List (Str × Addr))
  | [], acc => some acc
  | (n, k) :: r, acc => if k == .free then (match cells.lookup n with | some a => cloOf cells r ((n, a) :: acc) | none => none) else cloOf cells r acc
theorem clo_go {env : Env} : ∀ (names : List (Str × NameKind)) (acc cl : List (Str × Addr)), cloOf env.cells names acc = some cl →
    (forIn names acc fun (x : Str × NameKind) r => if (x.2 == NameKind.free) = true then do let a ← cellOf env x.1; pure (ForInStep.yield ((x.1, a) :: r)) else pure (ForInStep.yield r) : Sem (List (Str × Addr))) = pure cl
  | [], acc, cl, h => by cases h; rfl
  | (n, k) :: r, acc, cl, h => by
    rw [List.forIn_cons]
    unfold cloOf at h
    by_cases q : (k == NameKind.free) = true
    · rw [if_pos q] at h
      simp only [q, if_true]
      cases e : env.cells.lookup n with
      | none => rw [e] at h; cases h
      | some a =>
        rw [e] at h
        unfold cellOf
        simp only [e, pure_bind]
        exact clo_go r _ cl h
    · rw [if_neg q] at h
      simp only [q, if_false, pure_bind, Bool.false_eq_true]
      exact clo_go r _ cl h
theorem clo_ok {scope : Scope} {env : Env} {cl : List (Str × Addr)} (h : cloOf env.cells scope.names [] = some cl) : closureFor scope env = pure cl := by
  unfold closureFor
  have := clo_go (env := env) scope.names [] cl h
  simp only [bind_pure]
  refine Eq.trans ?_ this
  rfl
theorem lookup_relabel_ne {env : Env} {k0 : NameKind} (hk : k0 ≠ .free) : ∀ {names : List (Str × NameKind)} {x : Str}, names.lookup x = some k0 →
    (names.map fun (n, k) => if (k == NameKind.free && env.scope.kind == .function && env.kindOf n == some .cell) then (n, NameKind.cell) else (n, k)).lookup x = some k0
  | [], _, h => by simp at h
  | (n, k) :: r, x, h => by
    have ih := @lookup_relabel_ne env k0 hk r x
    show List.lookup x ((if (k == NameKind.free && env.scope.kind == .function && env.kindOf n == some .cell) = true then (n, NameKind.cell) else (n, k)) :: _) = _
    cases hx : x == n with
    | true =>
      simp only [List.lookup_cons, hx] at h
      have e : k = k0 := Option.some.inj h
      have z : (k == NameKind.free) = false := by rw [e]; cases k0 <;> first | rfl | exact absurd rfl hk
      rw [if_neg (by rw [z]; simp)]
      simp only [List.lookup_cons, hx, e]
    | false =>
      simp only [List.lookup_cons, hx] at h
      by_cases hc : (k == NameKind.free && env.scope.kind == .function && env.kindOf n == some .cell) = true
      · rw [if_pos hc]; simp only [List.lookup_cons, hx]; exact ih h
      · rw [if_neg hc]; simp only [List.lookup_cons, hx]; exact ih h
theorem lookup_relabel_free {env : Env} : ∀ {names : List (Str × NameKind)} {x : Str}, names.lookup x = some .free →
    (names.map fun (n, k) => if (k == NameKind.free && env.scope.kind == .function && env.kindOf n == some .cell) then (n, NameKind.cell) else (n, k)).lookup x = some .cell ∨
    (names.map fun (n, k) => if (k == NameKind.free && env.scope.kind == .function && env.kindOf n == some .cell) then (n, NameKind.cell) else (n, k)).lookup x = some .free
  | [], _, h => by simp at h
  | (n, k) :: r, x, h => by
    have ih := @lookup_relabel_free env r x
    show List.lookup x ((if (k == NameKind.free && env.scope.kind == .function && env.kindOf n == some .cell) = true then (n, NameKind.cell) else (n, k)) :: _) = _ ∨ List.lookup x ((if (k == NameKind.free && env.scope.kind == .function && env.kindOf n == some .cell) = true then (n, NameKind.cell) else (n, k)) :: _) = _
    cases hx : x == n with
    | true =>
      simp only [List.lookup_cons, hx] at h
      obtain rfl : k = .free := Option.some.inj h
      by_cases hc : (NameKind.free == NameKind.free && env.scope.kind == .function && env.kindOf n == some .cell) = true
      · rw [if_pos hc]; simp [List.lookup_cons, hx]
      · rw [if_neg hc]; simp [List.lookup_cons, hx]
    | false =>
      simp only [List.lookup_cons, hx] at h
      by_cases hc : (k == NameKind.free && env.scope.kind == .function && env.kindOf n == some .cell) = true
      · rw [if_pos hc]; simp only [List.lookup_cons, hx]; exact ih h
      · rw [if_neg hc]; simp only [List.lookup_cons, hx]; exact ih h
noncomputable def Cx.comp (X : Cx) (scope : Scope) (cl : List (Str × Addr)) (C : Addr) : Cx := { X with env := compEnvC scope cl C X.env }
theorem Fm.comp {nk n c} {X : Cx} {scope : Scope} {cl C} (fm : Fm nk n c X) (hk : scope.kind = .function) (hcell : ∀ y ∈ scope.names, y.2 ≠ .cell) : Fm (nkOf scope.names) n c (X.comp scope cl C) where
  G := fm.G
  fr := fm.fr
  frames := fm.frames
  handled := fm.handled
  guards := fm.guards
  depth := fm.depth
  units := fm.units
  kind := hk
  names := fun x k h => by
    rcases nkOf_inv h with ⟨q, rfl⟩ | ⟨q, rfl⟩ | ⟨q, rfl⟩ | ⟨q, rfl⟩
    · exact lookup_relabel_ne (by decide) q
    · exact lookup_relabel_ne (by decide) q
    · exact lookup_relabel_free q
    · exact lookup_relabel_ne (by decide) q
  globals := fm.globals
  builtins := fm.builtins
noncomputable def compP (t : Tgt) (P : EvP) : List D → Lc → St → List D → (List D → St → Prop) → (Addr → St → Prop) → Prop
  | [], _, σ, ys, N, _ => N ys σ
  | x :: xs, ℓ, σ, ys, N, E => tgtP t x ℓ σ fun ℓ1 σ1 => P ℓ1 σ1 (fun y σ2 => compP t P xs ℓ1 σ2 (ys ++ [y]) N E) E
theorem Kp.up {fr xs σ h h'} (k : ∀ a o, h.get? a = some o → h'.get? a = some o) : Kp fr xs σ h σ h' := ⟨fun a o e _ _ _ => k a o e, fun a m n _ _ _ => n.at' fun o e => k a o e, fun a o e => ⟨o, k a o e⟩, fun _ n => .inl n, fun _ n => n⟩
theorem Dy.noB {X ℓ σ h a} (dy : Dy X ℓ σ h) (n : New h a) : X.hB.get? a = none := by
  cases q : X.hB.get? a with
  | none => rfl
  | some o => have := dy.stays _ _ q; rw [n.1] at this; cases this
theorem New.ge {X : Cx} {ℓ σ} {h : Heap} (dy : Dy X ℓ σ h) {a : Addr} (ha : h.objs.size ≤ a) : New h a := ⟨get_ge ha, Nat.lt_of_lt_of_le dy.newA.2 ha⟩
theorem New.of {h1 h2 : Heap} {a} (up : ∀ a o, h1.get? a = some o → h2.get? a = some o) (n : New h2 a) : New h1 a := by
  refine ⟨?_, n.2⟩
  cases q : h1.get? a with
  | none => rfl
  | some o => have := up _ _ q; rw [n.1] at this; cases this
theorem lst_notSeq {ys} : ¬ ((LCg.lst ys).cls = .type "tuple" ∧ isSeqO (LCg.lst ys)) := fun ⟨e, _⟩ => by
  have : ("list" : String) = "tuple" := by injection e
  exact absurd this (by decide)
structure VSrcG (w : World) (A : Around) (I : Addr) (Is : List Addr) (n : Nat) (tgt : Expr) (P : Nat → Heap → Value → Prop) (it : Nat → Heap → Prop) (Rest : Heap → Prop) : Prop where
  item : ∀ (i : Nat) (s : Shared) (Q : Value → Shared → Prop) (E : Value → Shared → Prop), i < n → it i s.heap → Rest s.heap →
    (∀ v h' tk, P i h' v → it (i + 1) h' → (∀ b o, b ∉ Is → s.heap.get? b = some o → h'.get? b = some o) → Q v { s with heap := h', toks := tk }) →
    wpAny (model prg w) A (pyNext (.ref I)) (fun r s₁ => ∃ v, r = some v ∧ wpAny (model prg w) A (letOwnedTupleGo tgt (.ref I) v) (fun _ s₂ => Q v s₂) E s₁) E s
  done : ∀ (s : Shared) (Q : Option Value → Shared → Prop) (E : Value → Shared → Prop), it n s.heap → Rest s.heap →
    (∀ h' tk, (∀ b o, b ∉ Is → s.heap.get? b = some o → h'.get? b = some o) → Q none { s with heap := h', toks := tk }) → wpAny (model prg w) A (pyNext (.ref I)) Q E s
  self : ∀ (i : Nat) (s : Shared) (Q : Value → Shared → Prop) (E : Value → Shared → Prop), it i s.heap → Q (.ref I) s → wpAny (model prg w) A (pyIter (.ref I)) Q E s
  at_ : ∀ i h h', it i h → (∀ a ∈ Is, ∀ o, h.get? a = some o → h'.get? a = some o) → it i h'
  some_ : ∀ i h, it i h → ∀ a ∈ Is, ∃ o, h.get? a = some o ∧ ∃ vs, o.data = .fields vs
theorem VSrc.g {w A I n tgt P it Rest} (S : VSrc w A I n tgt P it Rest) : VSrcG w A I [I] n tgt P it Rest where
  item := fun i s Q E hi hit hr k => S.item i s Q E hi hit hr fun v h' tk a b c => k v h' tk a b fun x o n => c x o fun q => n (q ▸ .head _)
  done := fun s Q E hit hr k => S.done s Q E hit hr fun h' tk c => k h' tk fun x o n => c x o fun q => n (q ▸ .head _)
  self := S.self
  at_ := fun i h h' hit k => by obtain ⟨o, e, _⟩ := S.some_ _ _ hit; exact S.at_ i h h' o hit e (k _ (.head _) _ e)
  some_ := fun i h hit a ha => List.mem_singleton.mp ha ▸ S.some_ i h hit
section
variable {nk : Str → Option NK} {n c : Nat} {X : Cx} {ℓ : Lc} {σf : St} {s : Shared} {h1 h2 : Heap} {tk2 : Nat} {N : List D → St → Prop} {Ex : Addr → St → Prop} {E : Value → Shared → Prop}
theorem comp_coreG {t : Tgt} {tgt elt iter : Expr} {P' : EvP} {I : Addr} {Is : List Addr} {len : Nat} {P : Nat → Heap → Value → Prop} {it : Nat → Heap → Prop} {Rest : Heap → Prop} {xs : List D} {fz : Option Addr} {scope : Scope} {cl : List (Str × Addr)} {pos : Pos} {RR : Value → Addr → Result → Shared → Prop}
    (fm : Fm nk n c X) (hkind : scope.kind = .function) (hcell : ∀ y ∈ scope.names, y.2 ≠ .cell) (ht : TgtOk (nkOf scope.names) t tgt) (HE : SndE (nkOf scope.names) n c elt P')
    (dy1 : Dy X ℓ σf h1) (up : ∀ a o, h1.get? a = some o → h2.get? a = some o) (hI : ∀ a ∈ Is, New h1 a) (hlen : len = xs.length) (hsz : xs.length ≤ 100000) (S : VSrcG X.w X.A I Is len tgt P it Rest) (h0 : it 0 h2)
    (hfz : ∀ a, fz = some a → σf a = none ∧ a ∉ X.fr ∧ ∃ o, h1.get? a = some o) (hR : ∀ h, (∀ a ob, fz = some a → h1.get? a = some ob → h.get? a = some ob) → TupK h1 h → Rest h) (hP : ∀ i h v, i < len → P i h v → TupK h1 h → ∃ x, xs[i]? = some x ∧ VR h v x)
    (hp : compP t P' xs ⟨fun _ => none, cl⟩ σf [] N Ex)
    (hok : ∀ D C ys ds σ' h' tk m', New h1 D → New h1 C → C ≠ D → σ' D = none → EsOk X σ' h' [C] → C ∉ X.fr → Dy X ℓ σ' h' → Kp X.fr [] σf h1 σ' h' → h'.Ns C m' → h'.get? D = some (LCg.lst ys) → VRs h' ys ds → N ds σ' → RR (.ref D) C (.ok .next) { s with heap := h', toks := tk })
    (herr : ∀ D C cls e σ' h' tk m', New h1 C → EsOk X σ' h' [C] → C ∉ X.fr → Dy X ℓ σ' h' → Kp X.fr [] σf h1 σ' h' → h'.Ns C m' → ExcN X h1 h' σ' cls e → Ex cls σ' → RR (.ref D) C (.error (.ref e)) { s with heap := h', toks := tk }) :
    wpAny (model prg X.w) X.A (newList []) (fun acc s₃ => wpAny (model prg X.w) X.A (newFunctionEnv scope X.env.globals cl [] X.env.qual none .none (some X.env)) (fun cenv s₄ =>
      codeAny (model prg X.w) X.A (.compStart (.ListComp elt [⟨tgt, iter, [], 0⟩] scope pos) 0 (.ref I) acc { cenv with scope := relabel scope X.env }) (RR acc cenv.locals) s₄) E s₃) E { s with heap := h2, toks := tk2 } := by
  refine wpAny_newObj_type (wpAny_newFunctionEnv hcell (by intro y hy; simp at hy) (fun h₁ hns₁ hsb₁ => ?_) hkind)
  dsimp only at hns₁ hsb₁ ⊢
  generalize hH2 : h2.push { cls := .type "list", dict := none, data := .seq ([] : List Value).toArray } = H2 at hns₁ hsb₁ ⊢
  have hC : H2.objs.size = h2.objs.size + 1 := by rw [← hH2, Heap.size_push]
  have hDC : h2.objs.size ≠ H2.objs.size := by rw [hC]; exact Nat.ne_of_lt (Nat.lt_succ_self _)
  have old : ∀ b o, h2.get? b = some o → h₁.get? b = some o := fun b o e => hsb₁.extBut b o (by rw [hC]; exact Nat.ne_of_lt (Nat.lt_succ_of_lt (Heap.lt_size e))) (Heap.get?_push_of_some _ (hH2 ▸ Heap.get?_push_of_some _ e))
  have hacc : h₁.get? h2.objs.size = some (LCg.lst []) := hsb₁.extBut _ _ hDC (Heap.get?_push_of_some _ (hH2 ▸ Heap.get?_push_size _ rfl))
  obtain ⟨dy2, kp2, t2⟩ := dy1.grow up
  obtain ⟨dyH, kpH, tH⟩ := dy2.grow old
  have nD : New h1 h2.objs.size := New.of up (New.ge dy2 (Nat.le_refl _))
  have nC : New h1 H2.objs.size := New.of up (New.ge dy2 (by rw [hC]; exact Nat.le_succ _))
  have hupT : ∀ a o, h1.get? a = some o → h₁.get? a = some o := fun a o e => old a o (up a o e)
  have hID : ∀ a ∈ Is, a ≠ h2.objs.size := fun a ha => by obtain ⟨o, e, _⟩ := S.some_ _ _ h0 a ha; exact Nat.ne_of_lt (Heap.lt_size e)
  have hIC : ∀ a ∈ Is, a ≠ H2.objs.size := fun a ha => by obtain ⟨o, e, _⟩ := S.some_ _ _ h0 a ha; rw [hC]; exact Nat.ne_of_lt (Nat.lt_succ_of_lt (Heap.lt_size e))
  generalize hDa : h2.objs.size = Da at *
  generalize hCa : H2.objs.size = Ca at *
  have frsOld : ∀ a, a ∈ X.frs.filterMap (·.frame) → ∃ o, h1.get? a = some o := fun a q => by
    obtain ⟨m, hn, _⟩ := dy1.frD (.tail _ q)
    exact ns_some hn
  have ne1 : ∀ {a b : Addr}, New h1 a → (∃ o, h1.get? b = some o) → a ≠ b := fun n ⟨o, e⟩ q => by rw [← q, n.1] at e; cases e
  have frOld : ∀ a, a ∈ X.fr → ∃ o, h1.get? a = some o := fun a q => by
    obtain ⟨m, hn, _⟩ := dy1.frD q
    exact ns_some hn
  have hDf : Da ∉ (X.comp scope cl Ca).fr := fun q => by
    rcases List.mem_cons.mp q with q | q
    · exact hDC q
    · exact ne1 nD (frsOld _ q) rfl
  have hIf' : ∀ a ∈ Is, a ∉ (X.comp scope cl Ca).fr := fun a ha q => by
    rcases List.mem_cons.mp q with q | q
    · exact hIC a ha q
    · exact ne1 (hI a ha) (frsOld _ q) rfl
  have hCX : Ca ∉ X.fr := fun q => ne1 nC (frOld _ q) rfl
  have dyi : Dy (X.comp scope cl Ca) ⟨fun _ => none, cl⟩ σf h₁ := ⟨dyH.stays, dyH.two, dyH.frames, fun L hL => by
    rcases List.mem_cons.mp hL with rfl | hL
    · exact dy1.fresh nC
    · exact dyH.off L (.tail _ hL), dy1.noB nC, ⟨_, hns₁, fun z d e => by cases e⟩, rfl, dyH.low, dyH.rep⟩
  have fmi : Fm (nkOf scope.names) n c (X.comp scope cl Ca) := fm.comp hkind hcell
  have toX : ∀ {σ' h'}, Kp (X.comp scope cl Ca).fr [Ca, Da] σf h1 σ' h' → Kp X.fr [] σf h1 σ' h' := fun kp => kp.outer (fun a ha => by
    rcases List.mem_cons.mp ha with rfl | ha
    · exact .inr nC.1
    · exact .inl (.tail _ ha)) fun a ha => by
      rcases List.mem_cons.mp ha with rfl | ha
      · exact .inr nC.1
      · rw [List.mem_singleton.mp ha]; exact .inr nD.1
  have esC : ∀ {ℓ' σ' h'}, Dy (X.comp scope cl Ca) ℓ' σ' h' → EsOk X σ' h' [Ca] ∧ ∃ m', h'.Ns Ca m' := fun dy => by
    obtain ⟨m, hn, _⟩ := dy.own
    obtain ⟨o, e⟩ := ns_some hn
    refine ⟨⟨fun a ha => ?_⟩, m, hn⟩
    rw [List.mem_singleton.mp ha]
    exact ⟨dy.off _ (.head _), dy.offL, o, e, fun q => ns_notSeq hn e q.2⟩
  have loop : ∀ s₃ : Shared, s₃ = { s with heap := h₁, toks := tk2 + ([] : List (Str × Value)).length } →
      codeAny (model prg X.w) X.A (.compLoop (.ListComp elt [⟨tgt, iter, [], 0⟩] scope pos) 0 (.ref I) (.ref Da) (compEnvC scope cl Ca X.env)) (RR (.ref Da) Ca) s₃ := by
    rintro s₃ rfl
    let Inv : Nat → Shared → Prop := fun k s' => ∃ h tk i ys ds ℓ' σ', s' = { s with heap := h, toks := tk } ∧ i ≤ len ∧ k = len + 1 - i ∧ it i h ∧ ds.length = i ∧ VRs h ys ds ∧ h.get? Da = some (LCg.lst ys) ∧ Dy (X.comp scope cl Ca) ℓ' σ' h ∧ Kp (X.comp scope cl Ca).fr [Ca, Da] σf h1 σ' h ∧ (∀ a ∈ Is, σ' a = none) ∧ σ' Da = none ∧ compP t P' (xs.drop i) ℓ' σ' ds N Ex
    refine codeAny_loop rfl Inv (fun k s' inv => ?_) (len + 1) ⟨h₁, _, 0, [], [], _, σf, rfl, Nat.zero_le _, rfl, S.at_ _ _ _ h0 (fun a _ o e => old a o e), rfl, .nil, hacc, dyi, Kp.up hupT, fun a ha => dy1.fresh (hI a ha), dy1.fresh nD, by simpa using hp⟩
    obtain ⟨h, tk, i, ys, ds, ℓ', σ', rfl, hi, rfl, hit, hdl, vrs, hDh, dy, kp, hσI, hσD, hp'⟩ := inv
    have kpX := toX kp
    have tk1' : TupK h1 h := kpX.tupK dy1 nilSub
    have hrest : Rest h := hR h (fun a ob e ho => kpX.keep a ob ho (hfz a e).1 (hfz a e).2.1 fun q => nomatch q) tk1'
    have es : EsOk (X.comp scope cl Ca) σ' h Is := ⟨fun a ha => by
      obtain ⟨oI, hoI, vI, hdI⟩ := S.some_ _ _ hit a ha
      exact ⟨hσI a ha, dy1.noB (hI a ha), oI, hoI, notSeq_fields hdI⟩⟩
    have nsub : ∀ a ∈ Is, h1.get? a = none := fun a ha => (hI a ha).1
    show wpAny _ X.A ((compTurn (.ListComp elt [⟨tgt, iter, [], 0⟩] scope pos) 0 (.ref I) (.ref Da) (compEnvC scope cl Ca X.env)).onRaise (fun x => do noteFrame x (compEnvC scope cl Ca X.env); theTreesLotGoes x)) _ _ _
    refine wpAny_noted ?_
    rw [compTurn_list1]
    refine wpAny_bind (wpAny_standAt (wpAny_bind ?_))
    by_cases hlt : i < len
    · have hx : i < xs.length := hlen ▸ hlt
      have hdrop : xs.drop i = xs[i] :: xs.drop (i + 1) := List.drop_eq_getElem_cons hx
      rw [hdrop] at hp'
      refine wpAny_mono (S.item i { s with heap := h, toks := tk } (fun v s₂ => wpAny (model prg X.w) X.A (assign tgt (compEnvC scope cl Ca X.env) v) (fun _ s₂ => wpAny (model prg X.w) X.A (eval elt (compEnvC scope cl Ca X.env)) (fun y s₄ => wpAny (model prg X.w) X.A (call (.builtin "list.append") [.ref Da, y]) (fun _ s₅ => ∃ k, k < len + 1 - i ∧ Inv k s₅) (notedBy (model prg X.w) X.A (compEnvC scope cl Ca X.env) fun e s' => RR (.ref Da) Ca (.error e) s') s₄) (notedBy (model prg X.w) X.A (compEnvC scope cl Ca X.env) fun e s' => RR (.ref Da) Ca (.error e) s') s₂) (notedBy (model prg X.w) X.A (compEnvC scope cl Ca X.env) fun e s' => RR (.ref Da) Ca (.error e) s') s₂)
        _ hlt hit hrest fun v h3 tk3 hPv hit3 hk3 => ?_) (fun r s₁ hr => ?_) fun _ _ e => e
      · have w3 : Wd (X.comp scope cl Ca) Is h h3 := ⟨fun a o e _ n => hk3 a o n e, fun a m q hn => hn.at' fun o e => hk3 a o (fun z => hIf' a z q) e, fun a o e n => ⟨o, hk3 a o n e⟩⟩
        have dy3 := w3.dy dy es
        have kp3 := w3.kp kp nsub
        have t3 : TupK h h3 := w3.tupK dy es
        have t13 : TupK h1 h3 := tk1'.trans t3
        obtain ⟨x, hx', rv⟩ := hP i h3 v hlt hPv t13
        have ex : x = xs[i] := by rw [List.getElem?_eq_getElem hx] at hx'; exact (Option.some.inj hx').symm
        subst ex
        have hD3 := hk3 Da _ (fun q => hID Da q rfl) hDh
        have locS : ∀ a ∈ [Ca], a ∈ [Ca, Da] := fun a ha => by rw [List.mem_singleton.mp ha]; exact .head _
        have hIl : ∀ a ∈ Is, a ∉ [Ca] := fun a ha q => hIC a ha (List.mem_singleton.mp q)
        have hDl : Da ∉ [Ca] := fun q => hDC (List.mem_singleton.mp q)
        refine tgt_ok (X := X.comp scope cl Ca) fmi ht dy3 rv hp' fun ℓ4 σ4 h4 tk4 dy4 kp4 t4 hp4 => ?_
        have hI4 : ∀ a ∈ Is, (∀ o, h3.get? a = some o → h4.get? a = some o) ∧ σ4 a = none := fun a ha => by obtain ⟨o, ho, _⟩ := S.some_ _ _ hit3 a ha; exact ⟨fun o' e => kp4.keep a o' e (hσI a ha) (hIf' a ha) (hIl a ha), kp4.none_ ho (hσI a ha)⟩
        have hD4 := kp4.keep Da _ hD3 hσD hDf hDl
        have hσD4 := kp4.none_ hD3 hσD
        have kpA := kp3.trans (kp4.more locS)
        refine wpAny_mono (HE (X.comp scope cl Ca) ℓ4 σ4 { s with heap := h4, toks := tk4 } _ Ex fmi dy4 hp4) (fun y s₄ p => ?_) fun e s₄ p => ?_
        · obtain ⟨d, σ5, h5, tk5, rfl, vr, dy5, kp5, hp5⟩ := p
          have t5 := Kp.tupK dy4 kp5 nilSub
          have hI5 : ∀ a ∈ Is, (∀ o, h3.get? a = some o → h5.get? a = some o) ∧ σ5 a = none := fun a ha => by obtain ⟨o, ho, _⟩ := S.some_ _ _ hit3 a ha; exact ⟨fun o' e => kp5.keep a o' ((hI4 a ha).1 _ e) (hI4 a ha).2 (hIf' a ha) (List.not_mem_nil), kp5.none_ ((hI4 a ha).1 _ ho) (hI4 a ha).2⟩
          have hD5 := kp5.keep Da _ hD4 hσD4 hDf fun q => nomatch q
          have hσD5 := kp5.none_ hD4 hσD4
          have hszY : ys.toArray.size ≤ sizeLine := by
            rw [List.size_toArray, vrs.length, hdl]
            exact Nat.le_trans (Nat.le_trans hi (hlen ▸ hsz)) (by decide)
          refine append_at (hsz := hszY) hD5 fun h6 hs6 hD6 => ?_
          · have es6 : EsOk (X.comp scope cl Ca) σ5 h5 [Da] := ⟨fun a ha => by
              rw [List.mem_singleton.mp ha]
              exact ⟨hσD5, dy1.noB nD, _, hD5, lst_notSeq⟩⟩
            have w6 : Wd (X.comp scope cl Ca) [Da] h5 h6 := ⟨fun a o e _ n => hs6.extBut a o (fun q => n (q ▸ .head _)) e, fun a m q hn => hn.at' fun o e => hs6.extBut a o (fun z => hDf (z ▸ q)) e, fun a o e n => ⟨o, hs6.extBut a o (fun q => n (q ▸ .head _)) e⟩⟩
            have t6 := w6.tupK dy5 es6
            refine ⟨len + 1 - (i + 1), by omega, h6, tk5, i + 1, ys ++ [y], ds ++ [d], ℓ4, σ5, rfl, hlt, rfl, S.at_ _ _ _ hit3 (fun a ha o e => hs6.extBut _ _ (hID a ha) ((hI5 a ha).1 _ e)), by rw [List.length_append, hdl]; rfl, ?_, ?_, w6.dy dy5 es6, w6.kp (kpA.trans (kp5.more nilSub)) (fun a ha => by rw [List.mem_singleton.mp ha]; exact nD.1), fun a ha => (hI5 a ha).2, hσD5, hp5⟩
            · exact ((vrs.keep t3).keep (t4.trans (t5.trans t6))).append (.cons (vr.keep t6) .nil)
            · exact hD6.trans (congrArg some (LCg.lst_snoc ys y))
        · obtain ⟨cls, e', ℓ5, σ5, h5, tk5, rfl, rfl, dy5, kp5, ex5, hq⟩ := p
          refine note_ok (X := X.comp scope cl Ca) (A := X.A) (s := s) (xs := [Ca, Da]) (σ0 := σf) (h0 := h1) fmi fmi.frames dy5 (kpA.trans (kp5.more nilSub)) (ex5.back kpA) fun h6 tk6 dy6 kp6 ex6 => ?_
          obtain ⟨esc, m', hn'⟩ := esC dy6
          have kpX6 := toX kp6
          exact herr Da Ca cls e' σ5 h6 tk6 m' nC esc hCX (dy1.back kpX6 dy6 rfl) kpX6 hn' ex6 hq
      · obtain ⟨v, rfl, hv⟩ := hr
        refine wpAny_bind (wpAny_mono hv (fun _ s₂ h₂ => ?_) fun _ _ e => e)
        refine wpAny_bind (wpAny_mono h₂ (fun _ s₃ h₃ => ?_) fun _ _ e => e)
        refine wpAny_bind (wpAny_bind (wpAny_mono h₃ (fun y s₄ h₄ => ?_) fun _ _ e => e))
        refine wpAny_bind (wpAny_mono h₄ (fun _ s₅ h₅ => ?_) fun _ _ e => e)
        refine wpAny_pure ?_
        obtain ⟨k, hk, inv⟩ := h₅
        exact wpAny_pure ⟨rfl, k, hk, inv⟩
    · obtain rfl : i = len := by lia
      refine S.done _ _ _ hit hrest fun h3 tk3 hk3 => ?_
      refine wpAny_pure ?_
      have w3 : Wd (X.comp scope cl Ca) Is h h3 := ⟨fun a o e _ n => hk3 a o n e, fun a m q hn => hn.at' fun o e => hk3 a o (fun z => hIf' a z q) e, fun a o e n => ⟨o, hk3 a o n e⟩⟩
      have hnil : xs.drop i = [] := List.drop_eq_nil_of_le (Nat.le_of_eq hlen.symm)
      rw [hnil] at hp'
      have dy3 := w3.dy dy es
      have kp3 := w3.kp kp nsub
      obtain ⟨esc, m', hn'⟩ := esC dy3
      have kpX3 := toX kp3
      exact hok Da Ca ys ds σ' h3 tk3 m' nD nC (Ne.symm hDC) hσD esc hCX (dy1.back kpX3 dy3 rfl) kpX3 hn' (hk3 Da _ (fun q => hID Da q rfl) hDh) (vrs.keep (w3.tupK dy es)) hp'
  exact codeAny_compStart_list (loop _ rfl) (S.self 0 _ _ _ (S.at_ _ _ _ h0 (fun a _ o e => old a o e)) (loop _ rfl))
end
end Mine
end F_Abs22
section F_Abs23
open PySem PySem.W PySem.Spec PySem.Calls PyProof.Rows
namespace Mine
noncomputable def pComp (t : Tgt) (names : List (Str × NameKind)) (PI P' : EvP) : EvP := fun ℓ σ Q E => ∃ cl, cloOf ℓ.cel names [] = some cl ∧ PI ℓ σ (fun d σ1 => t.okS d σ1 ∧ ∃ xs fz, SrcD σ1 d xs fz ∧
  compP t P' xs ⟨fun _ => none, cl⟩ (σ1.frz fz) [] (fun ds σ' => ∀ a, σ'.thaw σ1 fz a = none → Q (.ref a) ((σ'.thaw σ1 fz).put a (.list ds))) (fun C σ' => E C (σ'.thaw σ1 fz))) E
section
variable {nk : Str → Option NK} {n c : Nat} {X : Cx} {ℓ ℓ' : Lc} {σ σ1 σ' : St} {s : Shared} {h h1 h' : Heap} {E : Addr → St → Prop}
theorem Dy.addAt {a o} (y : Dy X ℓ σ h) (hf : a ∉ X.fr) (hB : X.hB.get? a = none) (hs : sysModules < a) (hn : σ a = none) (r : ORep X.w h a o) : Dy X ℓ (σ.put a o) h := by
  refine ⟨y.stays, y.two, y.frames, fun L hL => ?_, y.offL, y.own, y.cel, fun b n => ?_, fun b ob e => ?_⟩
  · rw [St.put_ne (fun q : L = a => hf (q ▸ hL))]; exact y.off L hL
  · by_cases q : b = a
    · subst q; exact ⟨hB, hs⟩
    · rw [St.put_ne q] at n; exact y.low b n
  · by_cases q : b = a
    · subst q; rw [St.put_same] at e; cases e; exact r
    · rw [St.put_ne q] at e; exact y.rep b ob e
theorem Kp.addAt {fr xs a o} (kp : Kp fr xs σ h σ' h') (ha : New h a) : Kp fr xs σ h (σ'.put a o) h' := ⟨kp.keep, kp.ns, kp.live, fun b n => by
    by_cases q : b = a
    · exact .inr (q ▸ ha)
    · rw [St.put_ne q] at n; exact kp.new b n, fun b q => St.put_mono b (kp.mono b q)⟩
theorem ExcN.wd {h0 cls e C m} (x : ExcN X h0 h σ cls e) (dy : Dy X ℓ σ h) (hn : h.Ns C m) (w : Wd X [C] h h') : ExcN X h0 h' σ cls e := by
  have k : ∀ a o vs, h.get? a = some o → o.data = .fields vs → h'.get? a = some o := fun a o vs e hd => w.keep a o e (notFr dy e hd) fun q => by
    rw [List.mem_singleton.mp q] at e
    obtain ⟨o', es, ep, ho, hd', _⟩ := hn
    rw [e] at ho; cases ho
    rw [hd] at hd'; cases hd'
  obtain ⟨oe, vs, a1, a2, a3, a4, a5, a6, T, oT, ts, b1, b2, b3, b4, b5⟩ := x
  exact ⟨oe, vs, k _ _ _ a1 a3, a2, a3, a4, a5, a6, T, oT, ts, b1, b2, k _ _ _ b3 b4, b4, b5⟩
theorem lst_rep {w : World} {a ys ds} (e : h.get? a = some (LCg.lst ys)) (r : VRs h ys ds) : ORep w h a (.list ds) := ⟨_, ys.toArray, _, e, rfl, rfl, by simpa using r⟩
theorem wd_same {C : Addr} (hs : Heap.SameBut C h h') (hC : C ∉ X.fr) : Wd X [C] h h' :=
  ⟨fun a o e _ n => hs.extBut a o (fun q => n (q ▸ .head _)) e, fun a m q hn => hn.at' fun o e => hs.extBut a o (fun z => hC (z ▸ q)) e, fun a o e n => ⟨o, hs.extBut a o (fun q => n (q ▸ .head _)) e⟩⟩
theorem comp_done {fz : Option Addr} {D ys ds} (dy1 : Dy X ℓ σ1 h1) (hf : ∀ a, fz = some a → σ1 a ≠ none) (nD : New h1 D) (dy : Dy X ℓ σ' h) (kp : Kp X.fr [] (σ1.frz fz) h1 σ' h) (hD : h.get? D = some (LCg.lst ys)) (hσ : σ' D = none) (vr : VRs h ys ds) :
    Dy X ℓ ((σ'.thaw σ1 fz).put D (.list ds)) h ∧ Kp X.fr [] σ1 h1 ((σ'.thaw σ1 fz).put D (.list ds)) h ∧ σ'.thaw σ1 fz D = none := by
  obtain ⟨dyT, kpT⟩ := thaw_ok dy1 hf dy kp nilSub
  have hz : fz ≠ some D := fun q => by
    cases e : σ1 D with
    | none => exact hf D q e
    | some o => obtain ⟨ob, z, _⟩ := (dy1.rep D o e).some_; rw [nD.1] at z; cases z
  have hT : σ'.thaw σ1 fz D = none := (thaw_ne hz).trans hσ
  refine ⟨dyT.addAt (fun q => ?_) (dy1.noB nD) nD.2 hT (lst_rep hD vr), kpT.addAt nD, hT⟩
  obtain ⟨m, ⟨o, _, _, e, _⟩, _⟩ := dy1.frD q
  rw [nD.1] at e; cases e
theorem comp_err {fz : Option Addr} {C cls e m' tk} (dy0 : Dy X ℓ σ s.heap) (kp0 : Kp X.fr [] σ s.heap σ1 h1) (dy1 : Dy X ℓ σ1 h1) (hf : ∀ a, fz = some a → σ1 a ≠ none) (es : EsOk X σ' h [C]) (hC : C ∉ X.fr) (nC : New h1 C) (dy : Dy X ℓ σ' h) (kp : Kp X.fr [] (σ1.frz fz) h1 σ' h)
    (hn : h.Ns C m') (ex : ExcN X h1 h σ' cls e) (hE : E cls (σ'.thaw σ1 fz)) :
    ∃ m, h.Ns C m ∧ ∀ h'', Heap.SameBut C h h'' → ∀ cenv : Env, cenv.locals = C → wpAny (model prg X.w) X.A (PySem.passOn "comprehension.variables-let-go" (.ref e) cenv : Sem Value) (fun _ _ => False) (PX X [] σ s E) { s with heap := h'', toks := tk } := by
  refine ⟨m', hn, fun h'' hs cenv _ => ?_⟩
  have w := wd_same hs hC
  have dy2 := w.dy dy es
  have kp2 := w.kp kp fun a ha => by rw [List.mem_singleton.mp ha]; exact nC.1
  have ex2 := ex.wd dy hn w
  refine passOn_ok (s := s) (X := X) dy2 kp2 ex2 fun h3 tk3 dy3 kp3 ex3 => ?_
  obtain ⟨dyT, kpT⟩ := thaw_ok dy1 hf dy3 kp3 nilSub
  exact ⟨cls, e, ℓ, _, h3, tk3, rfl, rfl, dyT, kp0.trans kpT, (ex3.at.thaw fun a q => by
    cases z : σ1 a with
    | none => exact absurd z (hf a q)
    | some o => obtain ⟨ob, y, _⟩ := (dy1.rep a o z).some_; exact ⟨ob, y⟩).back kp0, hE⟩
theorem SndE.comp {t : Tgt} {tgt it elt : Expr} {PI P' : EvP} {scope : Scope} {pos : Pos} (hkind : scope.kind = .function) (hcell : ∀ y ∈ scope.names, y.2 ≠ .cell) (hnames : ∀ x ∈ scope.names, x.2 = .local → scope.names.lookup x.1 = some .local)
    (ht : TgtOk (nkOf scope.names) t tgt) (H : SndE nk n c it PI) (HE : SndE (nkOf scope.names) n c elt P') (hfs : ∀ env x, foldedSetIterable it env x = pure x) :
    SndE nk n c (.ListComp elt [⟨tgt, it, [], 0⟩] scope pos) (pComp t scope.names PI P') := by
  intro X ℓ σ s Q E fm dy hp
  rw [eval_ListComp]
  obtain ⟨cl, q, hp⟩ := hp
  refine wpAny_comprehension_free (use := Option.none) rfl (fun x => hfs X.env x) (clo_ok (by rw [dy.cel]; exact q)) hkind hnames ?_
  refine H.run fm dy (xs := []) Kp.refl hp fun v d σ1 h1 tk1 rv dy1 _ kp1 _ ⟨hok, xs, fz, hs, hl⟩ => ?_
  have dyf : Dy X ℓ (σ1.frz fz) h1 := dy1.frz
  refine iter_ok fm dy1 hs rv ht.is (NotItems.to ht hok) fun o len P it' Rest hlen S h0 hsz hR hP => ?_
  refine comp_coreG fm hkind hcell ht HE dyf (fun a o e => Heap.get?_push_of_some _ e) (fun a ha => by rw [List.mem_singleton.mp ha]; exact dy1.newA) hlen hsz S.g h0 (fun a e => ⟨frz_at e, fun q => hs.fz a e (dy1.off a q), ?_⟩) hR hP hl ?_ ?_
  · cases q : σ1 a with
    | none => exact absurd q (hs.fz a e)
    | some o => obtain ⟨ob, z, _⟩ := (dy1.rep a o q).some_; exact ⟨ob, z⟩
  · intro D C ys ds σ' h' tk m' nD nC hCD hσD es hCf dy' kp' hn hD vr hq
    refine ⟨m', hn, fun h'' hs'' => ?_⟩
    have w := wd_same (X := X) hs'' hCf
    have t' := w.tupK dy' es
    obtain ⟨dyT, kpT, hT⟩ := comp_done dy1 hs.fz nD (w.dy dy' es) (w.kp kp' fun a ha => by rw [List.mem_singleton.mp ha]; exact nC.1) (hs''.extBut _ _ (Ne.symm hCD) hD) hσD (vr.keep t')
    exact PE.mk (σ := σ) (.ref _) dyT (kp1.trans kpT) (hq D hT)
  · intro D C cls e σ' h' tk m' nC es hCf dy' kp' hn ex hq
    exact comp_err dy kp1 dy1 hs.fz es hCf nC dy' kp' hn ex hq
theorem SndS.asgC {t : Tgt} {tgt it elt : Expr} {PI P' : EvP} {scope : Scope} {pos px spos : Pos} {k : NK} {x : Str} (hkind : scope.kind = .function) (hcell : ∀ y ∈ scope.names, y.2 ≠ .cell) (hnames : ∀ x ∈ scope.names, x.2 = .local → scope.names.lookup x.1 = some .local)
    (ht : TgtOk (nkOf scope.names) t tgt) (H : SndE nk n c it PI) (HE : SndE (nkOf scope.names) n c elt P') (hfs : ∀ env x, foldedSetIterable it env x = pure x) (hx : nk x = some k)
    (hsw : ∀ X : Cx, Fm nk n c X → swapsWith (.ListComp elt [⟨tgt, it, [], 0⟩] scope pos) (some (.Name x px)) spos.line X.env = pure true) :
    SndS nk n c (.Assign [.Name x px] (.ListComp elt [⟨tgt, it, [], 0⟩] scope pos) spos) (sAsg k x (pComp t scope.names PI P')) := by
  intro X ℓ σ s N R E fs dy hp
  have fm := fs.toFm
  rw [exec_Assign_Name_used _ _ _ _ (hsw X fm)]
  refine wpAny_bind (wpAny_standAt (wpAny_bind ?_))
  show wpAny _ X.A (do let _ ← comprehension (.ListComp elt [⟨tgt, it, [], 0⟩] scope pos) scope X.env _ (newList []) false (eval it X.env) (some (assign (.Name x px) X.env))) _ _ s
  obtain ⟨cl, q, hp⟩ := hp
  refine wpAny_bind (wpAny_mono (wpAny_comprehension_free (use := some (assign (.Name x px) X.env)) (Q := fun _ s' => PS X σ s N R .next s') (E := PX X [X.env.locals] σ s E) rfl (fun x => hfs X.env x) (clo_ok (by rw [dy.cel]; exact q)) hkind hnames ?_) (fun _ s' hq => wpAny_pure (wpAny_pure hq)) fun _ _ e => e)
  refine wpAny_mono (H.run fm dy (xs := []) (R := fun v s' => wpAny (model prg X.w) X.A (pyIter v) (fun itv s₂ => wpAny (model prg X.w) X.A (newList []) (fun acc s₃ => wpAny (model prg X.w) X.A (newFunctionEnv scope X.env.globals cl [] X.env.qual none .none (some X.env)) (fun cenv s₄ =>
      codeAny (model prg X.w) X.A (.compStart (.ListComp elt [⟨tgt, it, [], 0⟩] scope pos) 0 itv acc { cenv with scope := relabel scope X.env }) (compPost (model prg X.w) X.A (PX X [X.env.locals] σ s E) (some (assign (.Name x px) X.env)) (fun _ s' => PS X σ s N R .next s') acc cenv.locals) s₄) (PX X [X.env.locals] σ s E) s₃) (PX X [X.env.locals] σ s E) s₂) (PX X [X.env.locals] σ s E) s') Kp.refl hp fun v d σ1 h1 tk1 rv dy1 _ kp1 _ ⟨hok, xs, fz, hs, hl⟩ => ?_) (fun _ _ h => h) fun _ _ p => p.more nilSub
  have dyf : Dy X ℓ (σ1.frz fz) h1 := dy1.frz
  refine iter_ok fm dy1 hs rv ht.is (NotItems.to ht hok) fun o len P it' Rest hlen S h0 hsz hR hP => ?_
  refine comp_coreG fm hkind hcell ht HE dyf (fun a o e => Heap.get?_push_of_some _ e) (fun a ha => by rw [List.mem_singleton.mp ha]; exact dy1.newA) hlen hsz S.g h0 (fun a e => ⟨frz_at e, fun q => hs.fz a e (dy1.off a q), ?_⟩) hR hP hl ?_ ?_
  · cases q : σ1 a with
    | none => exact absurd q (hs.fz a e)
    | some o => obtain ⟨ob, z, _⟩ := (dy1.rep a o q).some_; exact ⟨ob, z⟩
  · intro D C ys ds σ' h' tk m' nD nC hCD hσD es hCf dy' kp' hn hD vr hq
    obtain ⟨dyT, kpT, hT⟩ := comp_done dy1 hs.fz nD dy' kp' hD hσD vr
    show wpAny _ X.A (assign (.Name x px) X.env (.ref D)) _ _ _
    refine wpAny_assign_Name (store_ok fm dyT hx (.ref _) (hq D hT) fun ℓ2 σ2 h2 tk2 dy2 kp2 t2 hp2 => ?_)
    obtain ⟨eσ, eB, oC, heC, hoC⟩ := es.at_ C (.head _)
    have hzC : fz ≠ some C := fun q => by
      cases e : σ1 C with
      | none => exact hs.fz C q e
      | some o => obtain ⟨ob, z, _⟩ := (dy1.rep C o e).some_; rw [nC.1] at z; cases z
    have hσC : (σ'.thaw σ1 fz).put D (.list ds) C = none := (St.put_ne hCD).trans ((thaw_ne hzC).trans eσ)
    have hCl : C ∉ [X.env.locals] := fun q => hCf (locSub C q)
    have keepC := fun o e => kp2.keep C o e hσC hCf hCl
    refine ⟨m', hn.at' keepC, fun h'' hs'' => ?_⟩
    have w := wd_same (X := X) hs'' hCf
    have es2 : EsOk X σ2 h2 [C] := ⟨fun a ha => by
      rw [List.mem_singleton.mp ha]
      exact ⟨kp2.none_ heC hσC, eB, oC, keepC _ heC, hoC⟩⟩
    exact PS.next (w.dy dy2 es2) (w.kp ((kp1.trans kpT).more nilSub |>.trans kp2) fun a ha => by rw [List.mem_singleton.mp ha]; exact (kp1.back nC).1) hp2
  · intro D C cls e σ' h' tk m' nC es hCf dy' kp' hn ex hq
    obtain ⟨m, hm, hr⟩ := comp_err (tk := tk) dy kp1 dy1 hs.fz es hCf nC dy' kp' hn ex hq
    exact ⟨m, hm, fun h'' hs'' cenv hc => wpAny_mono (hr h'' hs'' cenv hc) (fun _ _ f => f) fun _ _ p => p.more nilSub⟩
end
end Mine
end F_Abs23
section F_Abs24
open PySem PySem.W PySem.Spec PySem.Calls
namespace Mine
noncomputable abbrev excBm : List Value := [.ref 31, .type "Exception", .type "BaseException", .type "object"]
noncomputable def tyT (v : Value) : Bool := match v with
  | .type t => t == "type"
  | _ => false
noncomputable def clD (d : Data) (f : ClassData → Bool) : Bool := match d with
  | .cls cd => f cd
  | _ => false
noncomputable def newS (v : Option (Option Value)) : Bool := match v with
  | some (some (.builtin n)) => n == "Exception.__new__"
  | _ => false
noncomputable def excB (C : Addr) (o : Obj) : Bool := tyT o.cls && clD o.data (fun cd => cd.mro == (.ref C :: excBm) && cd.hasDict && !cd.hasDel) && o.slots.toList.length == 6 && newS o.slots.toList[4]?
theorem tyT_of {v} (h : tyT v = true) : v = .type "type" := by
  cases v with
  | type t => exact congrArg _ (beq_iff_eq.mp h)
  | _ => exact Bool.noConfusion h
theorem clD_of {d f} (h : clD d f = true) : ∃ cd, d = .cls cd ∧ f cd = true := by
  cases d with
  | cls cd => exact ⟨cd, rfl, h⟩
  | _ => exact Bool.noConfusion h
theorem newS_of {v : Option Value} (h : newS (some v) = true) : v = some (.builtin "Exception.__new__") := by
  cases v with
  | none => exact Bool.noConfusion h
  | some v => cases v with
    | builtin n => exact congrArg (some <| Value.builtin ·) (beq_iff_eq.mp h)
    | _ => exact Bool.noConfusion h
noncomputable def isExcC (K : Frag) (C : Addr) : Bool := match K.lookup C with
  | some o => excB C o
  | none => false
structure ExcCls (w : World) (C : Addr) : Prop where
  c : isExcC (KF w) C = true
  i : findIn (KF w) (.ref C) "__init__" = some (some (.ref 28))
  s : findIn (KF w) (.ref C) "__setattr__" = some (some (.builtin "object.__setattr__"))
  y : findIn (KF w) (.ref C) "why" = some none
theorem len6 {α : Type} {l : List α} (h : l.length = 6) : ∃ a b c d e f, l = [a, b, c, d, e, f] := by
  obtain ⟨a, l, rfl⟩ := List.exists_cons_of_length_eq_add_one h
  obtain ⟨b, l, rfl⟩ := List.exists_cons_of_length_eq_add_one (Nat.succ.inj h)
  obtain ⟨c, l, rfl⟩ := List.exists_cons_of_length_eq_add_one (Nat.succ.inj (Nat.succ.inj h))
  obtain ⟨d, l, rfl⟩ := List.exists_cons_of_length_eq_add_one (Nat.succ.inj (Nat.succ.inj (Nat.succ.inj h)))
  obtain ⟨e, l, rfl⟩ := List.exists_cons_of_length_eq_add_one (Nat.succ.inj (Nat.succ.inj (Nat.succ.inj (Nat.succ.inj h))))
  obtain ⟨f, l, rfl⟩ := List.exists_cons_of_length_eq_add_one (Nat.succ.inj (Nat.succ.inj (Nat.succ.inj (Nat.succ.inj (Nat.succ.inj h)))))
  cases List.eq_nil_of_length_eq_zero (Nat.succ.inj (Nat.succ.inj (Nat.succ.inj (Nat.succ.inj (Nat.succ.inj (Nat.succ.inj h))))))
  exact ⟨a, b, c, d, e, f, rfl⟩
theorem exc_slots {sl : Array (Option Value)} (h6 : sl.toList.length = 6) (h5 : newS sl.toList[4]? = true) : ∃ k0 k1 k2 k3 k5, sl = #[k0, k1, k2, k3, some (.builtin "Exception.__new__"), k5] := by
  obtain ⟨k0, k1, k2, k3, k4, k5, hl⟩ := len6 h6
  rw [hl] at h5
  exact ⟨k0, k1, k2, k3, k5, by rw [← Array.toArray_toList (xs := sl), hl, newS_of h5]⟩
theorem excB_of {C : Addr} {o : Obj} (h : excB C o = true) : ∃ nm q N bs sn sub ab col dd k0 k1 k2 k3 k5, o = excClassObj nm q C N bs excBm true sn sub ab col dd k0 k1 k2 k3 k5 "Exception.__new__" := by
  obtain ⟨cls, dd, data, sl⟩ := o
  obtain ⟨h, h5⟩ := Bool.and_eq_true_iff.mp h
  obtain ⟨h, h6⟩ := Bool.and_eq_true_iff.mp h
  obtain ⟨h1, h⟩ := Bool.and_eq_true_iff.mp h
  obtain ⟨cd, h0, h⟩ := clD_of h
  obtain ⟨h, h4⟩ := Bool.and_eq_true_iff.mp h
  obtain ⟨h2, h3⟩ := Bool.and_eq_true_iff.mp h
  obtain ⟨k0, k1, k2, k3, k5, hs⟩ := exc_slots (beq_iff_eq.mp h6) h5
  obtain ⟨nm, bs, mro, N, q, hdct, sn, sub, ab, col, hd⟩ := cd
  refine ⟨nm, q, N, bs, sn, sub, ab, col, dd, k0, k1, k2, k3, k5, ?_⟩
  rw [show cls = _ from tyT_of h1, show data = _ from h0, show sl = _ from hs, show mro = _ from beq_iff_eq.mp h2, show hdct = true from h3, show hd = false from (Bool.not_eq_eq_eq_not.mp (h4 : (!hd) = true))]
theorem excC_of {K : Frag} {C : Addr} (h : isExcC K C = true) : ∃ nm q N bs sn sub ab col dd k0 k1 k2 k3 k5, K.lookup C = some (excClassObj nm q C N bs excBm true sn sub ab col dd k0 k1 k2 k3 k5 "Exception.__new__") := by
  unfold isExcC at h
  cases e : K.lookup C with
  | none => rw [e] at h; exact Bool.noConfusion h
  | some o =>
  rw [e] at h
  obtain ⟨nm, q, N, bs, sn, sub, ab, col, dd, k0, k1, k2, k3, k5, rfl⟩ := excB_of h
  exact ⟨_, _, _, _, _, _, _, _, _, _, _, _, _, _, rfl⟩
section
open PySem.F
variable {M : Model} {prog : Program} {w : World} {A : Around} {E : Value → Shared → Prop} {R : Result → Shared → Prop} {h : Heap} {g : Array GenState} {d : Drawn} {t : Nat} {os : OsState}
variable {nm q : Str} {C N : Addr} {bs : List Value} {sn : List Str} {sub : List Value} {ab : Bool} {col : Option Bool} {dd : Option Addr} {k0 k1 k2 k3 k5 : Option Value}
theorem bm_E : (Value.ref C :: excBm).contains (.type "BaseException") = true := by rw [List.contains_cons, show excBm.contains (.type "BaseException") = true by decide, Bool.or_true]
theorem bm_O : (Value.ref C :: excBm).contains (.type "object") = true := by rw [List.contains_cons, show excBm.contains (.type "object") = true by decide, Bool.or_true]
structure BmOk (B : String) (bm : List Value) : Prop where
  b : bm.contains (.type B) = true
  a : bm.contains (.type "AttributeError") = false
  n : bm.contains (.type "NameError") = false
theorem xc_check_new {B newId initId : String} {bm bm' : List Value} (F : ExcBaseFacts B newId initId bm) (hb : BmOk B bm') {rest : List Value} {Q : Unit → Shared → Prop} (hC : h.get? C = some (excClassObj nm q C N bs bm' true sn sub ab col dd k0 k1 k2 k3 k5 newId))
    (hq : Q () ⟨h, g, d, t, os⟩) : wpAny M A (checkBuiltinCall newId ⟨.ref C :: rest, []⟩) Q E ⟨h, g, d, t, os⟩ := by
  have hcont : (Value.ref C :: bm').contains (.type B) = true := by rw [List.contains_cons, hb.b, Bool.or_true]
  have hstar := F.noStar
  simp only [checkBuiltinCall, F.newKind, F.newSplit, F.newRow]
  repeat (first | refine wpAny_loadPart_at hC ?_ | (refine wpAny_isSubtype_exc hC ?_; rw [hcont]) | refine wpAny_staticBase_exc hC ?_ | refine wpAny_madeBy_exc hC ?_ | simp only [bne_self_eq_false, Bool.false_eq_true, if_false] | wp_step)
  exact hq
theorem xc_new {B newId initId : String} {bm bm' : List Value} (F : ExcBaseFacts B newId initId bm) (hb : BmOk B bm') {rest : List Value} (hC : h.get? C = some (excClassObj nm q C N bs bm' true sn sub ab col dd k0 k1 k2 k3 k5 newId))
    (hq : R (.ok (.ret (.ref (h.objs.size + 1)))) ⟨(h.push { cls := .type "tuple", data := .seq rest.toArray }).push
      { cls := .ref C, data := .fields #[.ref h.objs.size, .none, .none, .none, .bool false, .none] }, g, d, t, os⟩) (hrest : rest.length ≤ sizeLine) :
    codeAny (model prog w) A (.builtin newId ⟨.ref C :: rest, []⟩) R ⟨h, g, d, t, os⟩ := by
  have hends := F.ends
  have hcB : (Value.ref C :: bm').contains (.type B) = true := by rw [List.contains_cons, hb.b, Bool.or_true]
  have hcA : (Value.ref C :: bm').contains (.type "AttributeError") = false := by rw [List.contains_cons, hb.a]; rfl
  have hcN : (Value.ref C :: bm').contains (.type "NameError") = false := by rw [List.contains_cons, hb.n]; rfl
  refine codeAny_builtinAt F.entry ?_
  unfold Builtin.«BaseException.__new__»
  refine wpAt_bind ?_
  show wpAt _ _ _ (stack >>= _) _ _ _
  refine wpAt_bind (wpAt_stack fun p below => wpAt_of_wpAny ?_)
  wp_walk
  refine wpAt_of_wpAny ?_
  rw [F.owner]
  repeat (first | with_reducible refine wpAny_madeHere_exc F.canon hC ?_ | with_reducible refine wpAny_loadPart_at hC ?_ | (with_reducible refine wpAny_isSubtype_exc hC ?_; first | rw [hcB] | rw [hcA] | rw [hcN]) | wp_step)
  show R _ _
  rw [Heap.size_push]
  exact hq
theorem excBmOk : BmOk "Exception" excBm := ⟨by decide, by decide, by decide⟩
noncomputable def excObj (C t : Addr) : Obj := { cls := .ref C, data := .fields #[.ref t, .none, .none, .none, .bool false, .none] }
theorem xc_type_call {K : Frag} {fI : Addr} {rest : List Value} {Q : Fin → Shared → Prop} (X : K.In h) (hC : h.get? C = some (excClassObj nm q C N bs excBm true sn sub ab col dd k0 k1 k2 k3 k5 "Exception.__new__"))
    (hi : findIn K (.ref C) "__init__" = some (some (.ref fI))) (hf : typeIn K (.ref fI) = some (.type "function"))
    (hq : wpAny (model prog w) A (call (.ref fI) (.ref (h.objs.size + 1) :: rest)) (fun r s' => r = .none ∧ Q (.done (.ret (.ref (h.objs.size + 1)))) s') E ⟨(h.push { cls := .type "tuple", data := .seq rest.toArray }).push (excObj C h.objs.size), g, d, t, os⟩) (hrest : rest.length ≤ sizeLine) :
    wpAny (model prog w) A (Builtin.«type.__call__» ⟨.ref C :: rest, []⟩) Q E ⟨h, g, d, t, os⟩ := by
  have F := excBase_Exception
  repeat (first | with_reducible refine wpAny_loadPart_at hC ?_ | with_reducible refine wpAny_madeBy_exc hC ?_ | wp_step)
  refine codeAny_call_builtin_code (Code.quiet_builtin _ F.quiet) (xc_check_new F excBmOk hC ?_)
  refine xc_new F excBmOk hC ?_ hrest
  show wpAny _ _ _ _ _ _
  have up : ∀ b o, h.get? b = some o → ((h.push { cls := .type "tuple", data := .seq rest.toArray }).push { cls := .ref C, data := .fields #[.ref h.objs.size, .none, .none, .none, .bool false, .none] }).get? b = some o := fun b o e => Heap.get?_push_of_some _ (Heap.get?_push_of_some _ e)
  have hC₁ := up _ _ hC
  have X₁ := X.keeps up
  have hget : ((h.push { cls := .type "tuple", data := .seq rest.toArray }).push
      { cls := .ref C, data := .fields #[.ref h.objs.size, .none, .none, .none, .bool false, .none] }).get? (h.objs.size + 1) = some
      { cls := .ref C, data := .fields #[.ref h.objs.size, .none, .none, .none, .bool false, .none] } := by heap_get
  have hcC : (Value.ref C :: excBm).contains (.ref C) = true := by simp
  unfold isInstance
  repeat (first | with_reducible refine wpAny_loadPart_at hget ?_ | (with_reducible refine wpAny_isSubtype_exc hC₁ ?_; rw [hcC]) | wp_step)
  show wpAny _ _ (typeLookup (.ref C) _) _ _ _
  refine (looks_findIn X₁ hi).here ?_
  refine wpAny_holding (wpAny_bind ((bind_fn X₁ _ hf).here ?_))
  refine wpAny_bind (wpAny_mono hq (fun r s' hr => ?_) fun _ _ x => x)
  obtain ⟨rfl, hQ⟩ := hr
  wp_walk
  exact hQ
theorem xc_call {K : Frag} {fI : Addr} {rest : List Value} {Q : Value → Shared → Prop} (X : K.In h) (hC : h.get? C = some (excClassObj nm q C N bs excBm true sn sub ab col dd k0 k1 k2 k3 k5 "Exception.__new__"))
    (hi : findIn K (.ref C) "__init__" = some (some (.ref fI))) (hf : typeIn K (.ref fI) = some (.type "function"))
    (hq : wpAny (model prog w) (A.under (.builtin "type.__call__" ⟨.ref C :: rest, []⟩)) (call (.ref fI) (.ref (h.objs.size + 1) :: rest)) (fun r s' => r = .none ∧ Q (.ref (h.objs.size + 1)) s') E ⟨(h.push { cls := .type "tuple", data := .seq rest.toArray }).push (excObj C h.objs.size), g, d, t, os⟩) (hrest : rest.length ≤ sizeLine) :
    wpAny (model prog w) A (call (.ref C) rest) Q E ⟨h, g, d, t, os⟩ := by
  have f1 := tc_lookup
  have f2 := tc_bind (.ref C)
  have hT : (⟨h, g, d, t, os⟩ : Shared).TypeIs (.ref C) "type" := ⟨_, hC, rfl⟩
  refine wpAny_call (codeAny_of_tree ?_)
  show wpAny _ _ (callAny (.ref C) _) _ _ _
  repeat (any_goals (first | assumption | with_reducible refine wpAny_loadPart_at hC ?_ | wp_step))
  refine ⟨rfl, ?_⟩
  refine codeAny_call_builtin_at (Code.quiet_builtin _ (by decide +kernel)) entry_typeCall (wpAny_check_type_call_sub hC (xc_type_call X hC hi hf ?_ hrest))
  exact hq
end
end Mine
end F_Abs24
section F_Abs25
open PySem PySem.W PySem.Spec PySem.Calls
open Builtin Builtin.ObjectAttr
namespace Mine
theorem excCd_of {K : Frag} {C : Addr} (h : isExcC K C = true) : ∃ cd, clsIn K C = some cd ∧ cd.mro = .ref C :: excBm ∧ cd.hasDict = true := by
  obtain ⟨nm, q, N, bs, sn, sub, ab, col, dd, k0, k1, k2, k3, k5, e⟩ := excC_of h
  exact ⟨_, by unfold clsIn; rw [e], rfl, rfl⟩
noncomputable def excO (C t : Addr) (od : Option Addr) : Obj := { cls := .ref C, dict := od, data := .fields #[.ref t, .none, .none, .none, .bool false, .none] }
section
variable {M : Model} {prog : Program} {w : World} {A : Around} {E : Value → Shared → Prop} {R : Result → Shared → Prop} {h : Heap} {g : Array GenState} {d : Drawn} {tk : Nat} {os : OsState} {K : Frag} {C x t : Addr} {od : Option Addr}
theorem xo_type {o : Obj} (hx : h.get? x = some o) (hc : o.cls = .ref C) : Looks M h (typeOf (.ref x)) (.ref C) := (Looks.ld hx).andThen (by rw [hc]; exact .now)
theorem xo_inst {T : Value} {b : Bool} (X : K.In h) (hC : isExcC K C = true) {o : Obj} (hx : h.get? x = some o) (hc : o.cls = .ref C) (hb : (Value.ref C :: excBm).contains T = b) : Looks M h (isInstance (.ref x) T) b := by
  obtain ⟨cd, h1, h2, _⟩ := excCd_of hC
  refine (xo_type hx hc).andThen (looks_mroIn X ?_)
  unfold mroIn
  rw [h1, Option.bind_some, if_neg (by rw [h2]; simp), h2, hb]
theorem xc_check_init {B newId initId : String} {bm bm' : List Value} (F : ExcBaseFacts B newId initId bm) (hb : BmOk B bm') {nm q : Str} {N : Addr} {bs : List Value} {sn : List Str} {sub : List Value} {ab : Bool} {col : Option Bool} {dd : Option Addr} {k0 k1 k2 k3 k5 : Option Value} {oe : Obj} {rest : List Value} {Q : Unit → Shared → Prop}
    (hC : h.get? C = some (excClassObj nm q C N bs bm' true sn sub ab col dd k0 k1 k2 k3 k5 newId)) (he : h.get? x = some oe) (hcls : oe.cls = .ref C) (hq : Q () ⟨h, g, d, tk, os⟩) :
    wpAny M A (checkBuiltinCall initId ⟨.ref x :: rest, []⟩) Q E ⟨h, g, d, tk, os⟩ := by
  have hcB : (Value.ref C :: bm').contains (.type B) = true := by rw [List.contains_cons, hb.b, Bool.or_true]
  have hshort := F.noStar
  simp only [checkBuiltinCall, F.initKind, F.initSplit, F.initRow]
  repeat (first | (with_reducible refine wpAny_loadPart_at he ?_; rw [hcls]) | with_reducible refine wpAny_loadPart_at hC ?_ | (with_reducible refine wpAny_isSubtype_exc hC ?_; rw [hcB]) | wp_step)
  refine wpAny_onRaise ?_
  rw [show ∀ (a b : String) (n : Nat), Bind.check ⟨.positional, "*", B, .self, [⟨"args", .varPos, false⟩]⟩ a b n (List.map (fun x => x.fst) ({ pos := Value.ref x :: rest } : Args).kw) = pure () from
    fun a b n => check_star_args _ _ _ _ _ _]
  exact wpAny_pure hq
theorem xc_init {v : Value} {Q : Value → Shared → Prop} (X : K.In h) (hC : isExcC K C = true) (hx : h.get? x = some (excO C t od))
    (hq : ∀ h' tk' t', (∀ b o, b ≠ x → h.get? b = some o → h'.get? b = some o) → h'.get? x = some (excO C t' od) → Q .none ⟨h', g, d, tk', os⟩) :
    wpAny (model prog w) A (call (.builtin "Exception.__init__") [.ref x, v]) Q E ⟨h, g, d, tk, os⟩ := by
  have F := PySem.F.excBase_Exception
  obtain ⟨nm, q, N, bs, sn, sub, ab, col, dd, k0, k1, k2, k3, k5, e⟩ := excC_of hC
  refine wpAny_call (codeAny_call_builtin F.init.plain F.initEntry (xc_check_init F excBmOk (X _ _ e) hx rfl ?_))
  unfold Builtin.«BaseException.__init__»
  wp_walk
  show Q .none _
  have hx1 := Heap.get?_push_of_some { cls := .type "tuple", data := .seq #[v] } hx
  refine hq _ _ h.objs.size (fun b o n e => ?_) ?_
  · exact (Heap.get?_update_other _ _ (Ne.symm n)).trans (Heap.get?_push_of_some _ e)
  · exact Heap.get?_update_self _ hx1 rfl
theorem xc_set {v : Value} {name : Str} {Q : Unit → Shared → Prop} (X : K.In h) (hC : isExcC K C = true) (hs : findIn K (.ref C) "__setattr__" = some (some (.builtin "object.__setattr__"))) (hy : findIn K (.ref C) name = some none) (hx : h.get? x = some (excO C t none))
    (hq : ∀ h' tk' dd, (∀ b o, b ≠ x → h.get? b = some o → h'.get? b = some o) → h'.get? x = some (excO C t (some dd)) → Q () ⟨h', g, d, tk', os⟩) :
    wpAny (model prog w) A (setAttr (.ref x) name v) Q E ⟨h, g, d, tk, os⟩ := by
  have I : InstAt h x (excO C t none) C none := ⟨hx, rfl, rfl, trivial⟩
  obtain ⟨cd, hc, hm, hd⟩ := excCd_of hC
  refine set_plain (s := ⟨h, g, d, tk, os⟩) X I hs ?_
  have SF := PySem.F.store_Exception
  refine codeAny_call_builtin SF.slot.plain SF.entry (@check_slot (model prog w) _ _ ⟨h, g, d, tk + 1, os⟩ "object.__setattr__" "object" "__setattr__" (.ref x) [.str name tk, v] [] _ SF.kind SF.split (xo_inst X hC hx rfl bm_O) (SF.args (.ref x) (.str name tk) v) ?_)
  have hmr : Looks (model prog w) h (mroOf (.ref C)) cd.mro := (looks_clsIn X hc).andThen .now
  rw [osa_eq, refuse_eq]
  refine wpAny_bind (wpAny_bind (I.type.here (wpAny_bind (hmr.here ?_))))
  rw [hm, refuseLoop_ref, refuseLoop_ref, SF.passes]
  refine wpAny_pure (wpAny_bind (I.type.here (wpAny_bind ((looks_findIn X hy).here ?_))))
  refine wpAny_bind (wpAny_pure ?_)
  dsimp only
  unfold storeInOwnDict
  refine wpAny_bind (wpAny_pure (wpAny_bind (wpAny_bind (wpAny_loadPart hx (wpAny_bind ((looks_clsIn X hc).here ?_))))))
  rw [if_neg (by rw [hd]; decide)]
  show wpAny _ _ (if (!true || !typeHasDict (Value.ref C)) = true then pure none else _) _ _ _
  rw [if_neg (by simp [typeHasDict])]
  have hx1 : (h.push { cls := .type "dict", data := .dict #[] }).get? x = some (excO C t none) := Heap.get?_push_of_some _ hx
  have hxs : x ≠ h.objs.size := Nat.ne_of_lt (Heap.lt_size hx)
  refine wpAny_bind (wpAny_alloc' ?_)
  refine wpAny_bind (wpAny_update' hx1 ?_)
  refine wpAny_pure ?_
  have hgd : ((h.push { cls := .type "dict", data := .dict #[] }).update x fun o => { cls := o.cls, dict := some h.objs.size, data := o.data, slots := o.slots }).get? h.objs.size
      = some { cls := .type "dict", data := .dict #[] } :=
    (Heap.get?_update_ne _ _ _ _ hxs.symm).trans (Heap.get?_push_at rfl rfl)
  have hnd : ((h.push { cls := .type "dict", data := .dict #[] }).update x fun o => { cls := o.cls, dict := some h.objs.size, data := o.data, slots := o.slots }).Ns h.objs.size (fun _ => none) :=
    ⟨_, #[], _, hgd, rfl, fun e he => absurd he (by simp), fun _ => rfl⟩
  show wpAny _ _ (storeInDict h.objs.size (.str name tk) name v) _ _ _
  unfold storeInDict newKeyGuard
  refine wpAny_bind (wpAny_pure (wpAny_bind (wpAny_nsSet1 (Heap.Ns1.of_empty hnd) fun h' hn' hs => ?_)))
  obtain ⟨oD, esD, epD, hoD, hdD, hcD⟩ := hn'.count (Within.cons name v Within.nil)
  refine wpAny_bind (wpAny_lookBehind hoD (by rw [hdD]; exact pastItsLine_dict (Nat.le_trans hcD (by rw [List.length_cons, List.length_nil, sizeLine_eq]; lia))) ?_)
  refine wpAny_pure ?_
  show Q () _
  refine hq h' _ h.objs.size (fun b o n e => ?_) ?_
  · exact (hs.2 b (Nat.ne_of_lt (Heap.lt_size e))).trans ((Heap.get?_update_ne _ _ _ _ n).trans (Heap.get?_push_of_some _ e))
  · exact (hs.2 x hxs).trans (Heap.get?_update_self _ hx1 rfl)
end
end Mine
end F_Abs25
section F_Abs26
open PySem PySem.W PySem.Spec PySem.Calls PyProof.Rows
namespace Mine
noncomputable def fExcInit : FP := fun ds σ Q E => ∃ e d C nd, ds = [.ref e, d] ∧ σ e = some (.exc C nd) ∧ (∀ w, isExcC (KF w) C = true) ∧ Q .none σ
theorem St.put_id {σ : St} {a o} (h : σ a = some o) : σ.put a o = σ := by
  funext b
  unfold St.put
  split
  · rename_i q; rw [q, h]
  · rfl
theorem SndF.excInit {n} : SndF n (.builtin "Exception.__init__") fExcInit := fun nk c X ℓ σ s Q E vs ds fm dy rs hp => by
  obtain ⟨e, d, C, nd, rfl, he, hC, hq⟩ := hp
  obtain ⟨v1, vs1, rfl, r1, r2⟩ := rs.cons_inv
  obtain ⟨v2, vs2, rfl, r3, r4⟩ := r2.cons_inv
  cases r4
  cases r1.ref_inv
  obtain ⟨t, od, hx, hnd⟩ := dy.rep _ _ he
  obtain ⟨hh, g, dr, tk, os⟩ := s
  refine xc_init (C := C) (t := t) (od := od) (dy.KB fm.G) (hC X.w) hx fun h' tk' t' k hx' => ?_
  obtain ⟨dy', kp', _⟩ := dy.upd he (h' := h') k (o' := .exc C nd) fun _ => ⟨t', od, hx', hnd⟩
  rw [St.put_id he] at dy' kp'
  exact PE.mk .none dy' kp' hq
noncomputable def sAsgX (x : Str) (P Po : EvP) : SP := fun ℓ σ N R E => P ℓ σ (fun d σ1 => Po ℓ σ1 (fun o σ2 => match o with
  | .ref a => ∃ C, σ2 a = some (.exc C true) ∧ (∀ w, isExcC (KF w) C = true ∧ findIn (KF w) (.ref C) "__setattr__" = some (some (.builtin "object.__setattr__")) ∧ findIn (KF w) (.ref C) x = some none) ∧ N ℓ (σ2.put a (.exc C false))
  | _ => False) E) E
theorem SndS.asgX {nk n c} {x : Str} {e o pos pos' P Po} (H : SndE nk n c e P) (Ho : SndE nk n c o Po) (hs : ∀ env, swapsWith e (some (.Attribute o x pos')) pos.line env = pure false) : SndS nk n c (.Assign [.Attribute o x pos'] e pos) (sAsgX x P Po) := fun X ℓ σ s N R E fs dy hp => by
  refine plainObj_wpAny_Assign_Attribute (H.run (h1 := s.heap) (tk1 := s.toks) fs.toFm dy .refl hp fun v d σ1 h1 tk1 rd dy1 _ kp1 t1 hp1 => ?_) (hs _)
  refine Ho.run fs.toFm dy1 kp1 hp1 fun vo o σ2 h2 tk2 ro dy2 _ kp2 t2 hp2 => ?_
  cases o with
  | ref a =>
    obtain ⟨C, ha, hC, hq⟩ := hp2
    cases ro.ref_inv
    obtain ⟨t, od, hx, hnd⟩ := dy2.rep _ _ ha
    obtain rfl := hnd rfl
    refine xc_set (C := C) (t := t) (dy2.KB fs.G) (hC X.w).1 (hC X.w).2.1 (hC X.w).2.2 hx fun h' tk' dd k hx' => ?_
    obtain ⟨dy3, kp3, _⟩ := dy2.upd ha (h' := h') k (o' := .exc C false) fun _ => ⟨t, some dd, hx', fun q => by cases q⟩
    exact PS.next dy3 (kp2.trans (kp3.more nilSub)) hq
  | _ => exact hp2.elim
noncomputable def pMethT (PF : FP) (Ps : EvsP) : EvP := fun ℓ σ Q E => Ps ℓ σ (fun ds σ1 => PF ds σ1 Q E) E
theorem SndE.methT {nk n c} {x T id : _} {y : Str} {p apos pos args F Ps} (hx : nk x = some .glb) (hg : GName x (.type T)) (hd : (x == ("__debug__" : Str)) = false) (Hs : SndEs nk n c pos args Ps) (hF : SndF n (.builtin id) F) (ht : typeOf (.type T) = pure (.type "type")) (hst : Manifest.isStub T = false)
    (hf : findCls [] (.type T) (.type "type") y = some (.val (.builtin id))) (hh : handedIn (.builtin id) = true) (hpl : ∀ env, (backTo pos (starEach args env)).any (·.1) = false)
    (hform : ∀ env, methodCallForm (args.length + ([] : List Keyword).length) (backTo pos (starEach args env)) (backToKw pos (keywordEach [] env)) = true) (hline : (apos.endLine == pos.line) = true) :
    SndE nk n c (.Call (.Attribute (.Name x p) y apos) args [] pos) (pMethT F Ps) := fun X ℓ σ s Q E fm dy hp => by
  refine wp_method rfl (hform _) hline (glob_ok (s := s) (h1 := s.heap) (tk1 := s.toks) fm dy hx hg hd ?_)
  intro pl
  obtain ⟨m, F0, _, _⟩ := dy.frE
  refine method_type (s := s) (K := []) F0 (fun _ _ h => nomatch h) ht hst hf hh ?_
  exact callW (first := []) (fds := []) Hs hF (KOk.bi id X.w) hpl fm dy .refl .nil hp
noncomputable def fExc (C : Addr) (init : FP) : FP := fun ds σ Q E => ds.length ≤ 100 ∧ ∀ a, σ a = none → init (.ref a :: ds) (σ.put a (.exc C true)) (fun d σ' => d = .none ∧ Q (.ref a) σ') E
theorem SndF.exc {C : Addr} {n : Nat} {init : FP} (hok : ∀ w, ExcCls w C) (hf : ∀ w, typeIn (KF w) (.ref 28) = some (.type "function")) (H : SndFc n (.ref 28) init) : SndF (n + 1) (.ref C) (fExc C init) := fun nk c X ℓ σ s Q E vs ds fm dy rs hp => by
  have K0 := dy.KB fm.G
  obtain ⟨nm, q, N, bs, sn, sub, ab, col, dd, k0, k1, k2, k3, k5, e⟩ := excC_of (hok X.w).c
  obtain ⟨hh, g, dr, tk, os⟩ := s
  dsimp only at dy rs K0
  refine xc_call K0 (K0 _ _ e) (hok X.w).i (hf X.w) ?_ ?_
  · have up : ∀ b o, hh.get? b = some o → ((hh.push { cls := .type "tuple", data := .seq vs.toArray }).push (excObj C hh.objs.size)).get? b = some o := fun b o e => Heap.get?_push_of_some _ (Heap.get?_push_of_some _ e)
    have hget : ((hh.push { cls := .type "tuple", data := .seq vs.toArray }).push (excObj C hh.objs.size)).get? (hh.objs.size + 1) = some (excObj C hh.objs.size) := by heap_get
    generalize hH : (hh.push { cls := .type "tuple", data := .seq vs.toArray }).push (excObj C hh.objs.size) = H1 at up hget ⊢
    have hn : New hh (hh.objs.size + 1) := New.ge dy (Nat.le_succ _)
    obtain ⟨dy1, kp1, t1⟩ := dy.add up hn (o := .exc C true) fun _ => ⟨_, none, hget, fun _ => rfl⟩
    let A' := X.A.under (.builtin "type.__call__" ⟨.ref C :: vs, []⟩)
    have hA : A' = { X.A with depth := X.A.depth + 1, units := X.A.units + 1 } := by
      show X.A.under _ = _
      unfold Around.under
      rfl
    have fm' : Fm nk n c { X with A := A' } := by
      rw [hA]
      exact ⟨fm.G, fm.fr, fm.frames, fm.handled, fm.guards, (by have := fm.depth; show X.A.depth + 1 + n + 4 < _; lia), (by have := fm.units; show X.A.units + 1 + 200 * n + 10 * c + 100 < _; lia), fm.kind, fm.names, fm.globals, fm.builtins⟩
    refine wpAny_mono (H.f nk c { X with A := A' } ℓ _ ⟨H1, g, dr, tk, os⟩ _ E (.ref (hh.objs.size + 1) :: vs) (.ref (hh.objs.size + 1) :: ds) fm' dy1.cA (.cons (.ref _) (rs.keep t1)) (hp.2 _ (dy.fresh hn))) (fun r s' p => ?_) fun v s' p => ?_
    · obtain ⟨d, σ', h2, tk', rfl, rv, dy', kp', rfl, q⟩ := p
      cases rv
      exact ⟨rfl, PE.mk (tk' := tk') (.ref _) dy'.cA' (kp1.trans kp') q⟩
    · obtain ⟨C', e', ℓ', σ', h2, tk', rfl, rfl, dy', kp', ex, q⟩ := p
      exact ⟨C', e', ℓ', σ', h2, tk', rfl, rfl, dy'.cA', kp1.trans kp', (ex.back kp1).of rfl, q⟩
  · rw [rs.length]; exact Nat.le_trans hp.1 (by rw [sizeLine_eq]; decide)
noncomputable def sRaise (P : EvP) : SP := fun ℓ σ N R E => P ℓ σ (fun d σ1 => ∃ a C nd, d = .ref a ∧ σ a = none ∧ σ1 a = some (.exc C nd) ∧ (∀ w, isExcC (KF w) C = true) ∧ E C (σ1.frz (some a))) E
theorem raise_own {w : World} {A : Around} {E : Value → Shared → Prop} {env : Env} {s : Shared} {x : Sem Value} {Q : Flow → Shared → Prop} (hh : A.handled = none)
    (h : wpAny (model prg w) A x (fun v s₁ => ∃ e C o, v = .ref e ∧ (KF w).In s₁.heap ∧ isExcC (KF w) C = true ∧ s₁.heap.get? e = some o ∧ o.cls = .ref C ∧ (∃ vs, o.data = .fields vs ∧ 1 < vs.size ∧ vs[1]? = some .none) ∧ E (.ref e) s₁) E s) :
    wpAny (model prg w) A (raiseStmt env (some x) none) Q E s := by
  unfold raiseStmt
  refine wpAny_bind (wpAny_mono h (fun v s₁ h₁ => ?_) fun _ _ x => x)
  obtain ⟨e, C, o, rfl, X, hC, he, hc, ⟨vs, hd, hz, hv⟩, hE⟩ := h₁
  obtain ⟨nm, q, N, bs, sn, sub, ab, col, dd, k0, k1, k2, k3, k5, hl⟩ := excC_of hC
  have hCo := X _ _ hl
  have hcB := @bm_E C
  obtain ⟨hp, g, d, tk, os⟩ := s₁
  repeat (first | (with_reducible refine wpAny_loadPart_at he ?_; rw [hc]) | with_reducible refine wpAny_loadPart_at hCo ?_ | (with_reducible refine wpAny_isSubtype_exc hCo ?_; rw [hcB]) | wp_step)
  rw [hd]
  refine wpAny_pure ?_
  rw [hv]
  refine wpAny_pure ?_
  rw [if_neg (by simp)]
  exact wpAny_pure (wpAny_raiseNew_none hh hE)
theorem SndS.raise {nk n c e pos P} (H : SndE nk n c e P) : SndS nk n c (.Raise (some e) none pos) (sRaise P) := fun X ℓ σ s N R E fs dy hp => by
  rw [arm_exec_Raise]
  refine wpAny_bind (wpAny_standAt ?_)
  show wpAny (model prg X.w) X.A (raiseStmt X.env (some (do let v ← eval e X.env; standAt pos; pure v)) none) _ _ s
  refine raise_own fs.handled (wpAny_bind (H.run (h1 := s.heap) (tk1 := s.toks) fs.toFm dy (xs := [X.env.locals]) .refl hp fun v d σ1 h1 tk1 rv dy1 _ kp1 t1 hp1 => wpAny_bind (wpAny_standAt (wpAny_pure ?_))))
  obtain ⟨a, C, nd, rfl, ha0, ha, hC, hE⟩ := hp1
  cases rv.ref_inv
  obtain ⟨t, od, hx, hnd⟩ := dy1.rep _ _ ha
  have hn : New s.heap a := (kp1.new a (by rw [ha]; simp)).resolve_left fun q => q ha0
  refine ⟨a, C, _, rfl, dy1.KB fs.G, hC X.w, hx, rfl, ⟨_, rfl, by simp, rfl⟩, ?_⟩
  refine ⟨C, a, ℓ, σ1.frz (some a), h1, tk1, rfl, rfl, dy1.frz, ⟨kp1.keep, kp1.ns, kp1.live, fun b q => ?_, fun b q => ?_⟩, ⟨_, _, hx, rfl, rfl, by simp, hn, ⟨frz_at rfl, (dy1.low a (by rw [ha]; simp)).1⟩, .inl rfl⟩, hE⟩
  · refine kp1.new b fun z => q (frz_none z)
  · rw [frz_ne (fun z => q (by cases z; exact ha0))]; exact kp1.mono b q
end Mine
end F_Abs26
section F_Abs27
open PySem PySem.W PySem.Spec PySem.Calls PyProof.Rows
namespace Mine
section
variable {nk : Str → Option NK} {n c : Nat} {X : Cx} {ℓ : Lc} {σ : St} {s : Shared} {h1 : Heap} {tk1 : Nat} {A : Around}
theorem glob_any {x v pos} {Q : Value → Shared → Prop} {E : Value → Shared → Prop} (fm : Fm nk n c X) (dy : Dy X ℓ σ h1) (hx : nk x = some .glb) (hg : GName x v) (hd : (x == ("__debug__" : Str)) = false) (h : Q v { s with heap := h1, toks := tk1 }) :
    wpAny (model prg X.w) A (eval (.Name x pos) X.env) Q E { s with heap := h1, toks := tk1 } := by
  obtain ⟨loose, mean, mg, mb, T⟩ := fm.G.T
  have hs := dy.stays
  have Tg : h1.Ns X.env.globals mg := fm.globals ▸ T.g.keeps hs
  rcases hg X.w with e | ⟨e, eb, en⟩
  · exact Name_function_global fm.kind (fm.names x _ hx) (loadGlobal_global (s := { s with heap := h1, toks := tk1 }) Tg (mg_of fm.G.K T.g e) h) hd
  · exact Name_function_global fm.kind (fm.names x _ hx) (loadGlobal_builtin (s := { s with heap := h1, toks := tk1 }) Tg (mg_none_of fm.G.K T.g e) (fm.builtins ▸ T.b.keeps hs) ((T.builtins x en).trans eb) h) hd
theorem exc_matches {w : World} {h : Heap} {g : Array GenState} {d : Drawn} {t : Nat} {os : OsState} {e C C' : Addr} {oe : Obj} {Q : Bool → Shared → Prop} {E : Value → Shared → Prop} (K : (KF w).In h) (hC : isExcC (KF w) C = true) (hC' : isExcC (KF w) C' = true) (he : h.get? e = some oe) (hcls : oe.cls = .ref C) (hn : C' ≠ 31)
    (hq : Q (decide (C = C')) ⟨h, g, d, t, os⟩) : wpAny (model prg w) A (excMatches (.ref e) (.ref C')) Q E ⟨h, g, d, t, os⟩ := by
  obtain ⟨nm, q, N, bs, sn, sub, ab, col, dd, k0, k1, k2, k3, k5, hl⟩ := excC_of hC
  obtain ⟨nm', q', N', bs', sn', sub', ab', col', dd', k0', k1', k2', k3', k5', hl'⟩ := excC_of hC'
  have hc := K _ _ hl
  have hc' := K _ _ hl'
  have hcB := @bm_E C'
  have hcC : (Value.ref C :: excBm).contains (.ref C') = decide (C = C') := by
    by_cases z : C = C'
    · subst z; simp
    · have : C' ≠ C := fun w => z w.symm
      simp [z, this, hn]
  have f := tc_notTuple
  unfold excMatches
  repeat (first | (with_reducible refine wpAny_loadPart_at he ?_; rw [hcls]) | with_reducible refine wpAny_loadPart_at hc' ?_ | (with_reducible refine wpAny_isSubtype_exc hc' ?_; rw [hcB]) | (with_reducible refine wpAny_isSubtype_exc hc ?_; rw [hcC]) | wp_step)
  cases hb : decide (C = C') <;> (rw [hb] at hq; wp_walk; exact hq)
inductive HandOk (nk : Str → Option NK) (C : Addr) : List ExceptHandler → Str → Prop
  | hit {x p msg k pc pr pos rest} : nk x = some .glb → GName x (.ref C) → (x == ("__debug__" : Str)) = false → HandOk nk C (.ExceptHandler (some (.Name x p)) none [.Return (some (.Constant (.str msg) k pc)) pr] pos :: rest) msg
  | skip {x p C' msg b bs pos rest} : nk x = some .glb → GName x (.ref C') → (x == ("__debug__" : Str)) = false → C ≠ C' → C' ≠ 31 → (∀ w, isExcC (KF w) C' = true) → HandOk nk C rest msg → HandOk nk C (.ExceptHandler (some (.Name x p)) none (b :: bs) pos :: rest) msg
theorem handle_ok {C : Addr} {handlers : List ExceptHandler} {msg : Str} (H : HandOk nk C handlers msg) (hC : ∀ w, isExcC (KF w) C = true) (h31 : C ≠ 31) {σ0 : St} {h0 : Heap} {e : Addr} {Q : Flow → Shared → Prop} {E : Value → Shared → Prop} (fm : Fm nk n c X) :
    ∀ {h1 : Heap} {tk1 : Nat}, Dy X ℓ σ h1 → Kp X.fr [X.env.locals] σ0 h0 σ h1 → ExcN X h0 h1 σ C e → (∀ h2 tk2 t, Dy X ℓ σ h2 → Kp X.fr [X.env.locals] σ0 h0 σ h2 → Q (.ret (.str msg t)) { s with heap := h2, toks := tk2 }) →
    wpAny (model prg X.w) X.A (handleBy (.ref e) X.env handlers) Q E { s with heap := h1, toks := tk1 } := by
  induction H with
  | @hit x p msg k pc pr pos rest hx hg hd =>
    intro h1 tk1 dy kp ex hQ
    obtain ⟨oe, vs, a1, a2, _⟩ := id ex
    refine wpAny_handleBy_cons (codeAny_handlers_test (glob_any (s := s) fm dy hx hg hd ?_)) (by intro q; cases q)
    refine exc_matches (C := C) (C' := C) (dy.KB fm.G) (hC X.w) (hC X.w) a1 a2 h31 ?_
    rw [decide_eq_true rfl]
    refine codeAny_handlers_suite (flight_ok (s := s) dy kp ex fun h2 tk2 dy2 kp2 ex2 => ?_)
    refine wpAny_execs_cons (wpAny_Return_some (wpAny_Constant_str ?_))
    exact hQ _ _ _ dy2 kp2
  | @skip x p C' msg b bs pos rest hx hg hd hne h31' hC' _ ih =>
    intro h1 tk1 dy kp ex hQ
    obtain ⟨oe, vs, a1, a2, _⟩ := id ex
    refine wpAny_handleBy_cons (codeAny_handlers_test (glob_any (s := s) fm dy hx hg hd ?_)) (by intro q; cases q)
    refine exc_matches (C := C) (C' := C') (dy.KB fm.G) (hC X.w) (hC' X.w) a1 a2 h31' ?_
    rw [decide_eq_false hne]
    exact ih dy kp ex hQ
end
noncomputable def sTry (hs : List (Addr × Str)) (B : SP) : SP := fun ℓ σ N R E => B ℓ σ N R (fun C σ' => match hs.lookup C with | some m => R (.str m) σ' | none => False)
theorem SndS.try_ {nk n c} {body : List Stmt} {h0 : ExceptHandler} {hs : List ExceptHandler} {pos : Pos} {tab : List (Addr × Str)} {B : SP} (HB : SndSs nk n c body B) (hh : ∀ C m, tab.lookup C = some m → HandOk nk C (h0 :: hs) m ∧ (∀ w, isExcC (KF w) C = true) ∧ C ≠ 31) :
    SndS nk n c (.Try body (h0 :: hs) [] [] pos) (sTry tab B) := fun X ℓ σ s N R E fs dy hp => by
  refine wpAny_Try_except (wpAny_mono (HB X ℓ σ s N R _ fs dy hp) (fun f s1 p => ?_) fun v s1 p => ?_)
  · rcases p with ⟨rfl, l, a, b, c, e, f, g, q⟩ | ⟨v, d, ℓ', σ', h', tk', rfl, e, f, g, i, q⟩
    · exact wpAny_execs_nil (.n_ rfl l a b c e f g q)
    · exact .r_ v d ℓ' σ' h' tk' rfl e f g i q
  · obtain ⟨C, e, ℓ', σ', h', tk', rfl, rfl, dy', kp', ex, q⟩ := p
    cases hm : tab.lookup C with
    | none => rw [hm] at q; exact q.elim
    | some m =>
      rw [hm] at q
      obtain ⟨H, hC, h31⟩ := hh C m hm
      refine note_ok (A := X.A) (s := s) (xs := [X.env.locals]) fs.toFm fs.frames dy' kp' ex fun h2 tk2 dy2 kp2 ex2 => ?_
      refine flight_ok (s := s) dy2 kp2 ex2 fun h3 tk3 dy3 kp3 ex3 => ?_
      refine handle_ok (s := s) H hC h31 fs.toFm dy3 kp3 ex3 fun h4 tk4 t dy4 kp4 => ?_
      exact PS.ret (s := s) (σ := σ) (.str _ _) dy4 kp4 q
end Mine
end F_Abs27
section F_Abs28
open PySem PySem.W PySem.Spec PySem.Calls PyProof.Rows
namespace Mine
noncomputable def among (pos : Pos) : List (Int × Int × Addr) → Option Addr
  | [] => none
  | (l, k, c) :: r => if l == (pos.line : Int) && k == (pos.col : Int) then some c else among pos r
theorem among_ok {pos : Pos} : ∀ ps : List (Int × Int × Addr), codeAmong pos (tabVs ps) = (among pos ps).map .ref
  | [] => rfl
  | (l, k, c) :: r => by
    have ih := among_ok (pos := pos) r
    show (if (l == (pos.line : Int) && k == (pos.col : Int)) = true then some (Value.ref c) else codeAmong pos (tabVs r)) = _
    unfold among
    split
    · rfl
    · exact ih
theorem triples_tab : ∀ ps : List (Int × Int × Addr), TriplesOk (tabVs ps)
  | [] => trivial
  | (_, _, _) :: r => triples_tab r
theorem tab_snoc (a b : Int) (c : Addr) : ∀ ps : List (Int × Int × Addr), tabVs (ps ++ [(a, b, c)]) = tabVs ps ++ [rawInt a, rawInt b, .ref c]
  | [] => rfl
  | (l, k, c') :: r => by
    show Value.int l 0 :: .int k 0 :: .ref c' :: tabVs (r ++ [(a, b, c)]) = _
    rw [tab_snoc a b c r]; rfl
noncomputable def noParams : Arguments := { posonlyargs := [], args := [], vararg := none, kwonlyargs := [], kw_defaults := [], kwarg := none, defaults := [] }
noncomputable def pLam (P : Addr) (q0 : Str) (body : Expr) (scope : Scope) (pos : Pos) : EvP := fun ℓ σ Q E => ∃ ps cl, σ P = some (.tab ps) ∧ cloOf ℓ.cel scope.names [] = some cl ∧ match among pos ps with
  | some c' => ∀ f, σ f = none → Q (.ref f) (σ.put f (.lam body scope cl c' (q0 ++ "<lambda>")))
  | none => ∀ f c', σ f = none → σ c' = none → c' ≠ f → Q (.ref f) (((σ.put P (.tab (ps ++ [((pos.line : Int), (pos.col : Int), c')]))).put c' (.code (q0 ++ "<lambda>"))).put f (.lam body scope cl c' (q0 ++ "<lambda>")))
theorem bmain_at {X : Cx} {ℓ σ h} (fmG : Glob X.w X.hB) (dy : Dy X ℓ σ h) {P : Addr} {o : AObj} (hP : σ P = some o) : ∃ mg, h.Ns mainGlobals mg ∧ mainGlobals ≠ P ∧ h.BuiltinsAt mg P := by
  obtain ⟨loose, mean, mg, mb, T⟩ := fmG.T
  have hgs := T.g.keeps dy.stays
  obtain ⟨bm, ob, b1, b2, b3, b4, b5, b6⟩ := T.bmain
  have low := (dy.low P (by rw [hP]; simp)).1
  have hgP : mainGlobals ≠ P := fun q => by
    obtain ⟨o, e⟩ := ns_some T.g
    rw [q, low] at e; cases e
  have hbP : bm ≠ P := fun q => by rw [q, low] at b3; cases b3
  have hbG : bm ≠ mainGlobals := fun q => by
    obtain ⟨o, es, ep, e, hd, _⟩ := T.g
    rw [q, e] at b3; cases b3; rw [hd] at b6; cases b6
  exact ⟨mg, hgs, hgP, bm, ob, b1, b2, hbG, hbP, dy.stays _ _ b3, b4, b5, b6⟩
theorem SndE.lam {nk n c} {cA P : Addr} {q0 : Str} {body : Expr} {scope : Scope} {pos : Pos} (hc : nk codeName = some (.cod cA q0)) (hm : (cA, P) ∈ codeTabs) : SndE nk n c (.Lambda noParams body scope pos) (pLam P q0 body scope pos) := by
  intro X ℓ σ s Q E fm dy hp
  obtain ⟨ps, cl, hP, hcl, hp⟩ := hp
  obtain ⟨hcode, hq⟩ := fm.names _ _ hc
  refine kla_eval rfl ?_
  rw [hq]
  have hclo := clo_ok (scope := scope) (env := X.env) (by rw [dy.cel]; exact hcl)
  obtain ⟨mg, hg, hgP, hb⟩ := bmain_at fm.G dy hP
  have C := (fm.G.Cd _ hm).keeps dy.stays
  have rP : s.heap.get? P = some (tabObj (tabVs ps).toArray) := dy.rep _ _ hP
  have ht : TriplesOk (tabVs ps).toArray.toList := by simpa using triples_tab ps
  have hA : codeAmong pos (tabVs ps).toArray.toList = (among pos ps).map .ref := by simpa using among_ok (pos := pos) ps
  cases ha : among pos ps with
  | some c' =>
    rw [ha] at hp hA
    refine kla_makeFunctionHit hclo fm.globals hg hcode C rP ht hA hb fun ctv h' tk k hsz => ?_
    have up := fun b o e => Heap.get?_push_of_some (h := h') { cls := .type "function", data := .func (kla_fn "<lambda>" (q0 ++ "<lambda>") noParams body scope cl ((mg "__name__").getD .none) (.ref c') ctv) } (k b o e)
    have hn : New s.heap h'.objs.size := New.ge dy hsz
    obtain ⟨dy1, kp1, t1⟩ := dy.add (o := .lam body scope cl c' (q0 ++ "<lambda>")) up hn fun _ => ⟨_, _, _, Heap.get?_push_size _ rfl⟩
    exact PE.mk (.ref _) dy1 kp1 (hp _ (dy.fresh hn))
  | none =>
    rw [ha] at hp hA
    refine kla_makeFunction hclo fm.globals hg hcode C rP ht hA hgP hb fun c' ctv h' tk hx hge hlt hrec htb => ?_
    have htb' : h'.get? P = some (tabObj (tabVs (ps ++ [((pos.line : Int), (pos.col : Int), c')])).toArray) := by
      rw [htb, tab_snoc]; simp
    obtain ⟨dy1, kp1, t1⟩ := dy.upd hP (h' := h') hx (o' := .tab (ps ++ [((pos.line : Int), (pos.col : Int), c')])) fun _ => htb'
    have nc : New s.heap c' := New.ge dy hge
    have ncf : c' ∉ X.fr := fun q => by
      obtain ⟨m, hn, _⟩ := dy.frD q
      obtain ⟨o, e⟩ := ns_some hn
      rw [nc.1] at e; cases e
    have ncP : c' ≠ P := fun q => by have := nc.1; rw [q] at this; exact absurd (this.symm.trans rP) (by simp)
    obtain ⟨c₂, oc, vs, t, e2, hoc, hd, hv⟩ := hrec
    cases e2
    have z1 : (σ.put P (.tab (ps ++ [((pos.line : Int), (pos.col : Int), c')]))) c' = Option.none := (St.put_ne ncP).trans (dy.fresh nc)
    have dy2 := dy1.addAt (o := .code (q0 ++ "<lambda>")) ncf (dy.noB nc) nc.2 z1 ⟨oc, vs, t, hoc, hd, hv⟩
    have kp2 := kp1.addAt (o := .code (q0 ++ "<lambda>")) nc
    obtain ⟨dy3, kp3, t3⟩ := dy2.add (h' := h'.push (kla_obj "<lambda>" (q0 ++ "<lambda>") noParams body scope cl ((mg "__name__").getD .none) c' ctv)) (o := .lam body scope cl c' (q0 ++ "<lambda>")) (fun b o e => Heap.get?_push_of_some _ e) dy2.newA fun _ => ⟨_, _, _, Heap.get?_push_size _ rfl⟩
    have nf : New s.heap h'.objs.size := kp2.back dy2.newA
    exact PE.mk (.ref _) dy3 (kp2.trans kp3) (hp _ _ (dy.fresh nf) (dy.fresh nc) (Nat.ne_of_lt hlt))
noncomputable def fLam (n : Nat) (f : Addr) : FP := fun ds σ Q E => ds = [] ∧ ∃ body sc cl c q, σ f = some (.lam body sc cl c q) ∧ σ c = some (.code q) ∧ sc.isCoroutine = false ∧ sc.isGenerator = false ∧ sc.kind = .function ∧ (∀ x ∈ sc.names, x.2 ≠ .cell) ∧
  ∃ P' : EvP, SndE (nkOf sc.names) n 8 body P' ∧ P' ⟨fun _ => none, cl⟩ σ Q E
theorem SndF.lam {n : Nat} {f : Addr} : SndF (n + 1) (.ref f) (fLam n f) := fun nk c X ℓ σ s Q E vs ds fm dy rs hp => by
  obtain ⟨rfl, body, sc, cl, c', q, hf, hc, hco, hgen, hk, hcell, P', H, hp⟩ := hp
  cases rs
  obtain ⟨loose, mean, mg, mb, T⟩ := fm.G.T
  obtain ⟨name, pm, ct, ho⟩ := dy.rep _ _ hf
  obtain ⟨oc, vs, t, hoc, hd, hv⟩ := dy.rep _ _ hc
  have hroom : X.A.depth < recursionLimit := by have := fm.depth; lia
  refine wpAny_call (kla_callFunE hroom ho rfl hco hgen rfl ⟨c', oc, vs, t, rfl, hoc, hd, hv⟩ ?_)
  refine wpAny_of_eq (a := ([] : List (Str × Value))) rfl ?_
  refine wpAny_newFunctionEnv hcell (fun x hx => nomatch hx) (fun h₁ hns hsb => ⟨((T.nolimit).keeps dy.stays).fresh _ hsb, ?_⟩) hk
  show codeAny _ _ (.expr body (envX q sc s.heap.objs.size f (.ref c') cl)) _ _
  have up : ∀ b o, s.heap.get? b = some o → h₁.get? b = some o := fun b o e => hsb.extBut b o (Nat.ne_of_lt (Heap.lt_size e)) (Heap.get?_push_of_some _ e)
  obtain ⟨dyG, kpG, tG⟩ := dy.grow up
  have nL : New s.heap s.heap.objs.size := dy.newA
  have dyi : Dy (X.inner (envX q sc s.heap.objs.size f (.ref c') cl)) ⟨fun _ => none, cl⟩ σ h₁ := by
    refine ⟨dyG.stays, dyG.two, fun env he => ?_, fun L hL => ?_, dy.noB nL, ⟨_, hns, fun z d e => by cases e⟩, rfl, dyG.low, dyG.rep⟩
    · rcases List.mem_cons.mp he with rfl | he
      · exact ⟨by show sc.kind ≠ _; rw [hk]; decide, _, _, rfl, dy.noB nL, hns⟩
      · exact dyG.frames env he
    · have hL' : L = s.heap.objs.size ∨ L ∈ X.frs.filterMap (·.frame) := by
        rcases List.mem_cons.mp hL with h | h
        · exact .inl h
        · have h : L ∈ ((envX q sc s.heap.objs.size f (.ref c') cl) :: X.frs).filterMap (·.frame) := h
          rw [List.filterMap_cons] at h
          rcases List.mem_cons.mp h with h | h
          · exact .inl h
          · exact .inr h
      rcases hL' with rfl | hL'
      · exact dy.fresh nL
      · exact dy.off L (.tail _ hL')
  have fs : Fs (nkOf sc.names) n 8 (X.inner (envX q sc s.heap.objs.size f (.ref c') cl)) := inner_fs (cd := none) fm rfl rfl hk rfl (fun _ e => nomatch e) rfl rfl (Nat.le_refl _)
  have kpE : ∀ fr xs, Kp fr xs σ s.heap σ h₁ := fun _ _ => Kp.up up
  refine kla_codeExpr (wpAny_mono (H (X.inner (envX q sc s.heap.objs.size f (.ref c') cl)) _ σ { s with heap := h₁ } _ E fs.toFm dyi hp) (fun v s' p => ?_) fun v s' p => ?_)
  · obtain ⟨d, σ', h', tk', rfl, vr, dy', kp', hq⟩ := p
    have kpT := inner_outer (env := envX q sc s.heap.objs.size f (.ref c') cl) dy rfl rfl kpE (kp'.more nilSub)
    exact PE.mk (σ := σ) vr (dy.back kpT dy' rfl) kpT hq
  · obtain ⟨C, e, ℓ', σ', h', tk', rfl, rfl, dy', kp', ex, hq⟩ := p
    refine leaving_ok (X := X.inner (envX q sc s.heap.objs.size f (.ref c') cl)) (xs := [s.heap.objs.size]) (σ0 := σ) (h0 := h₁) fs.toFm fs.frames dy' (kp'.more nilSub) ex fun h2 tk2 dy2 kp2 ex2 => ?_
    have kpT := inner_outer (env := envX q sc s.heap.objs.size f (.ref c') cl) dy rfl rfl kpE kp2
    exact ⟨C, e, ℓ, σ', h2, tk2, rfl, rfl, dy.back kpT dy2 rfl, kpT, (ex2.at.back (kpE [] [])).of rfl, hq⟩
noncomputable def pCallL (n : Nat) (x : Str) : EvP := fun ℓ σ Q E => ∃ f, ℓ.loc x = some (.ref f) ∧ fLam n f [] σ Q E
theorem SndE.callL {nk n c} {x : Str} {p pos} (hx : nk x = some .loc) (hd : (x == ("__debug__" : Str)) = false) : SndE nk (n + 1) c (.Call (.Name x p) [] [] pos) (pCallL n x) := fun X ℓ σ s Q E fm dy hp => by
  obtain ⟨f, hl, hp⟩ := hp
  obtain ⟨m, hn, hm⟩ := dy.own
  obtain ⟨v, hv, vr⟩ := hm x _ hl
  cases vr.ref_inv
  refine wpAny_Call_NameR (wpAny_Name (wpAny_loadName_local fm.kind (fm.names x _ hx) hn hv ?_) hd)
  obtain ⟨_, body, sc, cl, c', q, hf, _⟩ := id hp
  obtain ⟨name, pm, ct, ho⟩ := dy.rep _ _ hf
  refine callWith_of (P := fun h => h.get? f = some (kla_obj name q noParams body sc cl pm c' ct)) rfl (fun h hh => ⟨.frame, .inl rfl, (Looks.ld (part := Option.none) hh).andThen .now⟩) ?_
  refine evalArgs_nil3 ⟨ho, ?_⟩
  exact SndF.lam nk c X ℓ σ s Q E [] [] fm dy .nil hp
end Mine
end F_Abs28
section F_Abs29
open PySem PySem.W PySem.Spec PySem.Calls PyProof.Rows
namespace Mine
noncomputable def fValues : FP := fun ds σ Q E => match ds with
  | [.ref d] => (∃ es, σ d = some (.dict es)) ∧ ∀ v, σ v = none → Q (.ref v) (σ.put v (.vals d))
  | _ => False
noncomputable def fItems : FP := fun ds σ Q E => match ds with
  | [.ref d] => (∃ es, σ d = some (.dict es)) ∧ ∀ v, σ v = none → Q (.ref v) (σ.put v (.items d))
  | _ => False
noncomputable def fPop : FP := fun ds σ Q E => match ds with
  | [.ref d, .tup ks] => ∃ es ky x, σ d = some (.dict es) ∧ D.tup ks = kyD ky ∧ es.lookup ky = some x ∧ es.length ≤ 100000 ∧ Q x (σ.put d (.dict (ddel ky es)))
  | _ => False
noncomputable def pDict0 : EvP := fun ℓ σ Q E => ∀ a, σ a = none → Q (.ref a) (σ.put a (.dict []))
section
variable {nk : Str → Option NK} {n c : Nat}
theorem SndF.values : SndF n (.builtin "dict.values") fValues := fun nk c X ℓ σ s Q E vs ds fm dy rs hp => by
  obtain ⟨d, rfl⟩ := oneD (M := fun ds => fValues ds σ Q E) hp (fun h => h) fun a b r h => by cases a <;> exact h
  cases d with
  | ref a =>
    obtain ⟨v, _, rfl, rv, r⟩ := rs.cons_inv; cases r.nil_inv
    cases rv.ref_inv
    obtain ⟨⟨es, ha⟩, hq⟩ := hp
    obtain ⟨xs, hx, rx⟩ := dy.rep _ _ ha
    obtain ⟨des, ep, Dd, hes⟩ := dEnt_of hx
    refine dict_values (not_sys (dy.low _ (by rw [ha]; simp)).2) Dd ?_
    obtain ⟨dy1, kp1, t1⟩ := dy.add (h' := s.heap.push { cls := .type "dict_values", data := .fields #[.ref _] }) (o := .vals _) (fun b o e => Heap.get?_push_of_some _ e) dy.newA fun _ => ⟨_, Heap.get?_push_size _ rfl, rfl, rfl⟩
    exact PE.mk (tk' := s.toks) (.ref _) dy1 kp1 (hq _ (dy.fresh dy.newA))
  | _ => exact hp.elim
theorem SndF.items : SndF n (.builtin "dict.items") fItems := fun nk c X ℓ σ s Q E vs ds fm dy rs hp => by
  obtain ⟨d, rfl⟩ := oneD (M := fun ds => fItems ds σ Q E) hp (fun h => h) fun a b r h => by cases a <;> exact h
  cases d with
  | ref a =>
    obtain ⟨v, _, rfl, rv, r⟩ := rs.cons_inv; cases r.nil_inv
    cases rv.ref_inv
    obtain ⟨⟨es, ha⟩, hq⟩ := hp
    obtain ⟨xs, hx, rx⟩ := dy.rep _ _ ha
    obtain ⟨des, ep, Dd, hes⟩ := dEnt_of hx
    refine dict_items (not_sys (dy.low _ (by rw [ha]; simp)).2) Dd ?_
    obtain ⟨dy1, kp1, t1⟩ := dy.add (h' := s.heap.push { cls := .type "dict_items", data := .fields #[.ref _] }) (o := .items _) (fun b o e => Heap.get?_push_of_some _ e) dy.newA fun _ => ⟨_, Heap.get?_push_size _ rfl, rfl, rfl⟩
    exact PE.mk (tk' := s.toks) (.ref _) dy1 kp1 (hq _ (dy.fresh dy.newA))
  | _ => exact hp.elim
theorem SndF.pop : SndF n (.builtin "dict.pop") fPop := fun nk c X ℓ σ s Q E vs ds fm dy rs hp => by
  obtain ⟨d, e, rfl⟩ := twoD (M := fun ds => fPop ds σ Q E) hp (fun h => h) (fun a h => by cases a <;> exact h) fun a b c r h => by cases a <;> first | exact h | (cases b <;> exact h)
  cases d with
  | ref a => cases e with
    | tup ks =>
      obtain ⟨v, _, rfl, rv, r⟩ := rs.cons_inv
      obtain ⟨v2, _, rfl, rv2, r2⟩ := r.cons_inv; cases r2.nil_inv
      cases rv.ref_inv
      obtain ⟨es, ky, x, ha, e, hl, hz, hq⟩ := hp
      rw [e] at rv2
      obtain ⟨ak, rfl, hk⟩ := vr_ky X.w rv2
      obtain ⟨xs, hx, rx⟩ := dy.rep _ _ ha
      have lk := rx.look ky
      rw [hl] at lk
      obtain ⟨a0, v0, e0, rv0⟩ := lk
      refine dict_pop (show X.A.units + 21 < cLine by have := fm.units; lia) hk hx e0 (by rw [rx.length, sizeLine_eq]; lia) fun h' hd' hs => ?_
      obtain ⟨dy', kp', t'⟩ := dy.upd ha (sameBut_turn hs) (o' := .dict (ddel ky es)) fun t => ⟨_, hd', (rx.keep t).del⟩
      exact PE.mk (rv0.keep t') dy' kp' hq
    | _ => exact hp.elim
  | _ => exact hp.elim
theorem SndE.dict0 {pos} : SndE nk n c (.Dict [] [] pos) pDict0 := fun X ℓ σ s Q E fm dy hp => by
  refine wpAny_Dict_empty ?_
  obtain ⟨dy1, kp1, t1⟩ := dy.add (h' := s.heap.push { cls := .type "dict", data := .dict #[] }) (o := .dict []) (fun b o e => Heap.get?_push_of_some _ e) dy.newA fun _ => ⟨[], ⟨_, #[], 0, Heap.get?_push_size _ rfl, ⟨rfl, rfl, by decide⟩, rfl, rfl, (fun _ h => nomatch h), .nil⟩, .nil⟩
  exact PE.mk (tk' := s.toks) (.ref _) dy1 kp1 (hp _ (dy.fresh dy.newA))
theorem SndE.bytes {b k pos} : SndE nk n c (.Constant (.bytes b) k pos) (pBytes b.toArray) := fun X ℓ σ s Q E fm dy hp => Constant_bytes (PE.mk (tk' := s.toks + 1) (.bytes _ _) dy .refl hp)
end
end Mine
end F_Abs29
section F_Abs30
open PySem PySem.W PySem.Spec PySem.Calls
namespace Mine
open Sem (wp)
section
variable {α β : Type} {M : Model} {A : Around} {E : Value → Shared → Prop} {s : Shared}
theorem wpR_onRaise {m : Sem α} {k : Value → Sem Unit} {Q : α → Shared → Prop} (h : wpR M A m Q (fun e s' => wpAny M A (k e) (fun _ s'' => E e s'') E s') s) : wpR M A (m.onRaise k) Q E s := fun Γ p hΓ hd hb => by
  rw [Sem.wp_onRaise]
  exact Sem.wp_mono M Γ m (fun _ _ _ h' => h') (fun e p' s' h' => h' Γ p' hΓ) p s (h Γ p hΓ hd hb)
theorem wpR_holding {vs : List Value} {m : Sem α} {Q : α → Shared → Prop} (h : wpR M A m Q E s) : wpR M A (holding vs m) Q E s := fun Γ p hΓ hd hb => by rw [Sem.wp_holding]; exact h Γ p hΓ hd hb
theorem wpR_keep {vs : List Value} {m : Sem α} {Q : α → Shared → Prop} (h : wpR M A m Q E s) : wpR M A (m.keep vs) Q E s := fun Γ p hΓ hd hb => by rw [Sem.wp_keep]; exact h Γ p hΓ hd hb
theorem wpR_operate {vs : List Value} {m : Sem Value} {Q : Value → Shared → Prop} (h : wpR M A m Q E s) : wpR M A (operate vs m) Q E s := fun Γ p hΓ hd hb => by rw [Sem.wp_operate]; exact h Γ p hΓ hd hb
theorem wpR_run {c : Code} {h : Option Value} {Q : Flow → Shared → Prop} (hc : codeR M (A.mark h) c (fun r s' => match r with | .ok f => Q f s' | .error e => E e s') s) (hnb : h ≠ some byPass := by intro x; cases x) : wpR M A (run c h) Q E s :=
  fun Γ p hΓ hd hb => by
    rw [Sem.wp_run]
    refine hc _ p rfl (hΓ.enter c h p hnb) fun x hx => ?_
    rcases List.mem_cons.mp hx with rfl | hx
    · exact hd
    · exact hb x hx
theorem wpR_runValue {c : Code} {Q : Value → Shared → Prop} (hc : codeR M A c (fun r s' => match r with | .ok (.ret v) => Q v s' | .ok _ => False | .error e => E e s') s) : wpR M A (runValue c) Q E s := fun Γ p hΓ hd hb => by
  rw [Sem.wp_runValue]
  refine hc _ p rfl (hΓ.enter c none p (by intro x; cases x)) fun x hx => ?_
  rcases List.mem_cons.mp hx with rfl | hx
  · exact hd
  · exact hb x hx
theorem wpR_call {f : Value} {pos : List Value} {kw : List (Str × Value)} {Q : Value → Shared → Prop} (hc : codeR M A (.call f ⟨pos, kw⟩) (fun r s' => match r with | .ok (.ret v) => Q v s' | .ok _ => False | .error e => E e s') s) : wpR M A (call f pos kw) Q E s := wpR_runValue hc
theorem codeR_of_tree {c : Code} {R : Result → Shared → Prop} (hd : dirty c = false) (h : wpR M (A.under c) (M.den c) (fun fin s' => match fin with | .done f => R (.ok f) s' | .again c' => c'.quiet = true ∧ codeR M A c' R s') (fun e s' => R (.error e) s') s) : codeR M A c R s := fun Γ p hc hΓ hb => by
  rw [wpCode_iff_wp, hc]
  refine Sem.wp_mono M Γ _ (fun fin p' s' h' => ?_) (fun _ _ _ h' => h') p s (h Γ p (hc ▸ hΓ.in) (hc ▸ hd) hb)
  cases fin with
  | done f => exact h'
  | again c' => exact ⟨h'.1, h'.2 (Γ.goto c') p' rfl (hΓ.goto c') hb⟩
theorem codeR_mono {c : Code} {R R' : Result → Shared → Prop} (h : codeR M A c R s) (hR : ∀ r s, R r s → R' r s) : codeR M A c R' s := fun Γ p hc hΓ hb => wpCode_mono hR (h Γ p hc hΓ hb)
theorem codeR_loop' {c : Code} {R : Result → Shared → Prop} (hq : c.quiet = true) (hd : dirty c = false) (I : Nat → Shared → Prop)
    (turn : ∀ n s, I n s → wpR M (A.under c) (M.den c) (fun fin s' => match fin with
        | .done f => R (.ok f) s'
        | .again c' => (c' = c ∧ ∃ m, m < n ∧ I m s') ∨ (c'.quiet = true ∧ codeR M A c' R s')) (fun e s' => R (.error e) s') s)
    (n : Nat) (h : I n s) : codeR M A c R s := by
  induction n using Nat.strongRecOn generalizing s with
  | ind n ih =>
    refine codeR_of_tree hd (wpR_mono (turn n s h) (fun fin s' hf => ?_) fun _ _ h' => h')
    cases fin with
    | done f => exact hf
    | again c' =>
      rcases hf with ⟨rfl, m, hm, hI⟩ | hf
      · exact ⟨hq, ih m hm hI⟩
      · exact hf
theorem wpR_runOwn {c : Code} {env : Env} {Q : Flow → Shared → Prop} (hc : codeR M A c (fun r s' => match r with | .ok f => Q f s' | .error e => cameBackBy M A env E e s') s) : wpR M A (runOwn c env) Q E s := by
  unfold runOwn
  refine wpR_onRaise (wpR_run ?_)
  have e : A.mark none = A := by cases A; rfl
  rw [e]; exact hc
theorem wpR_noted {env : Env} {m : Sem α} {Q : α → Shared → Prop} (h : wpR M A m Q (notedBy M A env E) s) : wpR M A (m.onRaise fun x => do noteFrame x env; theTreesLotGoes x) Q E s :=
  wpR_onRaise (wpR_mono h (fun _ _ q => q) fun _ _ hx => wpAny_bind (wpAny_mono hx (fun _ _ e => wpAny_theTreesLotGoes e) fun _ _ e => e))
end
section
variable {A : Around} {E : Value → Shared → Prop} {s : Shared} {prog : Program} {w : World} {env : Env}
theorem wpR_execs_cons {st rest} {Q : Flow → Shared → Prop} (h : wpR (model prog w) A (exec st env) (fun f s' => match f with | .next => wpR (model prog w) A (execs rest env) Q E s' | f => Q f s') E s) : wpR (model prog w) A (execs (st :: rest) env) Q E s := fun Γ p hΓ hd hb => by
  rw [execs_cons, Sem.wp_bind']
  refine Sem.wp_mono _ Γ _ (fun f p' s' h' => ?_) (fun _ _ _ h' => h') _ _ (h Γ p hΓ hd hb)
  cases f <;> first | exact h' Γ p' hΓ hd hb | exact h'
theorem wpR_Assign_Name {x pos' value pos} {Q : Flow → Shared → Prop} (h : wpR (model prog w) A (eval value env) (fun v s₁ => wpAny (model prog w) A (storeName env x v) (fun _ => Q .next) E s₁) E s)
    (hs : swapsWith value (some (.Name x pos')) pos.line env = pure false) : wpR (model prog w) A (exec (.Assign [.Name x pos'] value pos) env) Q E s := fun Γ p hΓ hd hb => by
  simp only [exec_Assign_Name env x pos' value pos hs, Sem.wp_bind', Sem.wp_cmd_standAt, Sem.wp_bindName, Sem.wp_pure']
  exact Sem.wp_mono _ Γ _ (fun v _ s₁ h₁ => h₁ Γ _ hΓ) (fun _ _ _ h' => h') _ _ (h Γ _ hΓ hd hb)
theorem wpR_Assign_Attribute {o attr pos' value pos} {Q : Flow → Shared → Prop}
    (h : wpR (model prog w) A (eval value env) (fun v s₁ => wpAny (model prog w) A (eval o env) (fun ov s₂ => wpAny (model prog w) A (setAttr ov attr v) (fun _ => Q .next) E s₂) E s₁) E s)
    (hs : swapsWith value (some (.Attribute o attr pos')) pos.line env = pure false) : wpR (model prog w) A (exec (.Assign [.Attribute o attr pos'] value pos) env) Q E s := fun Γ p hΓ hd hb => by
  simp only [plainObj_exec_Assign_Attribute o attr pos' value pos hs, assign_Attribute, Sem.wp_bind', Sem.wp_holding, Sem.wp_cmd_standAt, Sem.wp_release, Sem.wp_pure']
  exact Sem.wp_mono _ Γ _ (fun v p₁ s₁ h₁ => Sem.wp_mono _ Γ _ (fun ov _ s₂ h₂ => h₂ Γ _ hΓ) (fun _ _ _ h' => h') _ _ (h₁ Γ p₁ hΓ)) (fun _ _ _ h' => h') _ _ (h Γ _ hΓ hd hb)
theorem wpR_Expr {e pos} {Q : Flow → Shared → Prop} (h : wpR (model prog w) A (eval e env) (fun _ => Q .next) E s) (hi : interactive env = false) (hs : swapsWith e none pos.line env = pure false) :
    wpR (model prog w) A (exec (.Expr e pos) env) Q E s := by
  rw [exec_Expr env e pos hi hs]
  exact wpR_bindA (wpAny_standAt (wpR_bind (wpR_mono h (fun v s' h' => wpR.of (wpAny_dropValue h')) fun _ _ x => x)))
theorem wpR_For {target iter body orelse pos} {Q : Flow → Shared → Prop}
    (h : wpAny (model prog w) A (eval iter env) (fun x s₁ => wpAny (model prog w) A (pyIter x) (fun it s₂ =>
      codeR (model prog w) A (.forLoop target it body orelse env) (fun r s' => match r with | .ok f => Q f s' | .error e => cameBackBy (model prog w) A env E e s') s₂) E s₁) E s)
    (hs : ∀ x, foldedSetIterable iter env x = pure x) : wpR (model prog w) A (exec (.For target iter body orelse pos) env) Q E s := by
  rw [exec_For]
  exact wpR_bindA (wpAny_standAt (wpR_bindA (wpAny_mono h (fun x s₁ h₁ => wpR_bindA (wpAny_of_eq (hs x) (wpR_bindA (wpAny_standAt (wpR_bindA (wpAny_holding
    (wpAny_mono h₁ (fun it s₂ h₂ => wpR_runOwn h₂) fun _ _ h' => h'))))))) fun _ _ h' => h')))
theorem codeR_forLoop {R : Result → Shared → Prop} {target it body} (I : Nat → Shared → Prop)
    (turn : ∀ n s, I n s → wpAny (model prog w) A (pyNext it) (fun r s₁ => match r with
      | none => R (.ok .next) s₁
      | some v => wpAny (model prog w) A (letOwnedTupleGo target it v) (fun _ s₁' =>
          wpAny (model prog w) A (assign target env v) (fun _ s₂ => wpR (model prog w) A (execs body env) (fun f s₃ => match f with
            | .next | .cont => ∃ m, m < n ∧ I m s₃
            | .brk => R (.ok .next) s₃
            | .ret v => R (.ok (.ret v)) s₃) (notedBy (model prog w) A env fun e s' => R (.error e) s') s₂) (notedBy (model prog w) A env fun e s' => R (.error e) s') s₁') (notedBy (model prog w) A env fun e s' => R (.error e) s') s₁) (notedBy (model prog w) A env fun e s' => R (.error e) s') s)
    (n : Nat) (h : I n s) : codeR (model prog w) A (.forLoop target it body [] env) R s := by
  refine codeR_loop' rfl rfl I (fun n s hI => ?_) n h
  show wpR _ A ((forTurn target it body [] env).onRaise (fun x => do noteFrame x env; theTreesLotGoes x)) _ _ s
  refine wpR_noted ?_
  simp only [forTurn]
  refine wpR_bindA (wpAny_standAt (wpR_bindA (wpAny_onRaise (wpAny_mono (turn n s hI) (fun r s₁ h₁ => ?_) fun _ _ h' => wpAny_standAt h'))))
  cases r with
  | none => exact wpR_pure (.inr ⟨rfl, codeR.of (codeAny_block (wpAny_execs_nil h₁))⟩)
  | some v =>
    refine wpR_bindA (wpAny_mono h₁ (fun _ s₁' h₁' => ?_) fun _ _ h' => h')
    refine wpR_bindA (wpAny_mono h₁' (fun _ s₂ h₂ => wpR_bind (wpR_mono h₂ (fun f s₃ h₃ => ?_) fun _ _ h' => h')) fun _ _ h' => h')
    cases f with
    | next => exact wpR_pure (.inl ⟨rfl, h₃⟩)
    | cont => exact wpR_pure (.inl ⟨rfl, h₃⟩)
    | brk => exact wpR_pure h₃
    | ret v => exact wpR_pure h₃
theorem wpR_Call_Name {id : Str} {p pos : Pos} {args : List Expr} {Q : Value → Shared → Prop}
    (h : wpAny (model prog w) A (eval (.Name id p) env) (fun f s₁ => wpR (model prog w) A (callWith pos f [] (backTo pos (starEach args env)) []) Q E s₁) E s) :
    wpR (model prog w) A (eval (.Call (.Name id p) args [] pos) env) Q E s := by
  show wpR _ A (do callWith pos (← eval (.Name id p) env) [] (backTo pos (starEach args env)) (backToKw pos (keywordEach [] env))) Q E s
  exact wpR_bindA h
theorem wpR_callWith {f : Value} {first : List Value} {pos : Pos} {P : Heap → Prop} {args : List (Bool × Sem Value)} {Q : Value → Shared → Prop} (hplain : args.any (·.1) = false)
    (hk : ∀ h, P h → ∃ k, (k = Keeper.frame ∨ k = Keeper.machine ∨ k = Keeper.boundFrame) ∧ Looks (model prog w) h (keeperOf f) k)
    (h : wpAny (model prog w) A (evalArgs f true args []) (fun a s₁ => P s₁.heap ∧ wpR (model prog w) A (call f (first ++ a.pos) a.kw) Q E s₁) E s) : wpR (model prog w) A (callWith pos f first args []) Q E s := by
  unfold callWith
  refine wpR_bindA (wpAny_holding (wpAny_mono h (fun a s₁ h₁ => wpR_bindA (wpAny_standAt ?_)) fun _ _ x => x))
  obtain ⟨k, hk', L⟩ := hk _ h₁.1
  simp only [hplain]
  refine wpR_bindA (L.here ?_)
  have tail : ∀ {t : Sem Value}, wpR (model prog w) A t Q E s₁ → wpR (model prog w) A (t >>= fun r => holding [r] point >>= fun _ => pure r) Q E s₁ :=
    fun ht => wpR_bind (wpR_mono ht (fun r s₂ hr => wpR_bindA (wpAny_holding (wpAny_point (wpR_pure hr)))) fun _ _ x => x)
  have marked (mk : Value) : wpR (model prog w) A (callMarked mk f (first ++ a.pos) a.kw) Q E s₁ := by unfold callMarked; exact wpR_keep h₁.2
  rcases hk' with rfl | rfl | rfl <;> repeat' (first | exact tail h₁.2 | exact tail (marked plainCall) | exact tail (marked callOfAMethodObject) | exact tail (wpR_operate h₁.2) | exact tail (marked _) | split)
end
end Mine
end F_Abs30
section F_Abs31
open PySem PySem.W PySem.Spec PySem.Calls
namespace Mine
section
variable {A : Around} {E : Value → Shared → Prop} {s : Shared} {prog : Program} {w : World} {env : Env} {R : Result → Shared → Prop}
theorem codeR_call_function {a : Addr} {args : Args} {o : Obj} {fd : FuncData} {body : List Stmt} (hroom : A.depth < recursionLimit) (ho : s.heap.get? a = some o)
    (hd' : o.data = .func fd) (hco : fd.scope.isCoroutine = false) (hgen : fd.scope.isGenerator = false) (hbody : fd.body = .stmts body) (hcd : s.heap.CodeRec fd.code fd.qualname)
    (h : wpAny (model prog w) A.in1 (bindArgs fd args) (fun binds s₁ =>
      wpAny (model prog w) A.in1 (newFunctionEnv fd.scope fd.globals fd.closure binds (fd.qualname ++ ".<locals>.") (some a) fd.code none fd.builtins)
        (fun env s₂ => s₂.heap.NoLimit ∧ codeR (model prog w) A (.func body env) R s₂) (fun e s' => R (.error e) s') s₁) (fun e s' => R (.error e) s') s) :
    codeR (model prog w) A (.call (.ref a) args) R s := by
  refine codeR_of_tree rfl ?_
  show wpR _ A.in1 (callAny (.ref a) args) _ _ s
  simp only [callAny]
  refine wpR_bindA (wpAny_load ho ?_)
  obtain ⟨c, oc, vs, tq, hc, hoc, hdc, hq⟩ := hcd
  simp only [hd', callFunction, hco, hgen, hbody, hc]
  rw [hc] at h
  refine wpR_bindA (m := field (.ref c) 1) (wpAny_field hoc hdc hq (wpR_bindA (wpAny_pure ?_)))
  exact wpR_bindA (wpAny_mono h (fun binds s₁ h₁ => wpR_bindA (wpAny_mono h₁ (fun env s₂ h₂ => wpR_bindA (wpAny_enterFrame h₂.1 hroom
    (wpR_pure (And.intro rfl h₂.2)))) fun _ _ h' => h')) fun _ _ h' => h')
theorem codeR_func {body env} (h : wpR (model prog w) (A.deeper env) (execs body env) (fun f s' => R (.ok (.ret (match f with | .ret v => v | _ => .none))) s')
      (fun e s' => wpAny (model prog w) (A.deeper env) (leaving env e) (fun _ s'' => R (.error e) s'') (fun e' s'' => R (.error e') s'') s') s) :
    codeR (model prog w) A (.func body env) R s := by
  refine codeR_of_tree rfl ?_
  show wpR _ (A.deeper env) (do point; match ← (execs body env).onRaise (leaving env) with | .ret v => ret v | _ => ret .none) _ _ s
  refine wpR_bindA (wpAny_point (wpR_bind (wpR_mono (Q := fun f s' => R (.ok (.ret (match f with | .ret v => v | _ => .none))) s') (E := fun e s' => R (.error e) s') ?_ (fun f s' h' => ?_) fun _ _ h' => h')))
  · intro Γ p hΓ hd hb
    rw [Sem.wp_onRaise]
    exact Sem.wp_mono _ Γ _ (fun _ _ _ h' => h') (fun e p' s' h' => h' Γ p' hΓ) p s (h Γ p hΓ hd hb)
  · cases f <;> exact wpR_pure h'
theorem codeR_call_builtin_at {id : String} {args : Args} {b : Builtin} (hq : (Code.builtin id args).quiet = true) (hb : entryFor table id = some b) (hd : dirtyIds.contains id = false)
    (h : wpAny (model prog w) A.in1 (checkBuiltinCall id args) (fun _ s₁ => wpR (model prog w) (A.under (.builtin id args)) (b args)
      (fun fin s' => match fin with | .done f => R (.ok f) s' | .again c' => c'.quiet = true ∧ codeR (model prog w) A c' R s') (fun e s' => R (.error e) s') s₁)
      (fun e s' => R (.error e) s') s) : codeR (model prog w) A (.call (.builtin id) args) R s := by
  refine codeR_of_tree rfl ?_
  show wpR _ A.in1 (do checkBuiltinCall id args; again (.builtin id args)) _ _ s
  refine wpR_bindA (wpAny_mono h (fun _ s₁ h₁ => wpR_pure (And.intro hq (codeR_of_tree hd ?_))) fun _ _ h' => h')
  show wpR _ _ (match entryFor table id with | some b => b args | none => unsupported ((withoutEnding? id "#data").getD id)) _ _ s₁
  rw [hb]; exact h₁
theorem wpR_typeCall {K : Frag} {C fI : Addr} {rest : List Value} {h : Heap} {g : Array GenState} {d : Drawn} {t : Nat} {os : OsState} (X : K.In h) (hm : makesIn K C = true) (hi : findIn K (.ref C) "__init__" = some (some (.ref fI))) (hf : typeIn K (.ref fI) = some (.type "function"))
    (hq : codeR (model prog w) (A.under (.builtin "type.__call__" ⟨.ref C :: rest, []⟩)) (.call (.ref fI) ⟨.ref (h.objs.size + 1) :: rest, []⟩) (InitBack (h.objs.size + 1) R) ⟨(h.push emptyDict).push (instObj C h.objs.size), g, d, t, os⟩) :
    codeR (model prog w) A (.call (.ref C) ⟨rest, []⟩) R ⟨h, g, d, t, os⟩ := by
  have Y := makes_of (M := model prog w) X hm
  have Y' := Y
  have hi' := looks_findIn (M := model prog w) X hi
  have hb := fun self => bind_fn (M := model prog w) X self hf
  obtain ⟨⟨oc, od, cd, sl, hC, e1, e2, e4⟩, made, base, self, top, call, typ⟩ := Y
  refine codeR_of_tree rfl ?_
  show wpR _ _ (callAny (.ref C) _) _ _ _
  refine wpR_bindA (m := PySem.load C) (wpAny_load hC ?_)
  show wpR _ _ (callAny.viaDunder (.ref C) _) _ _ _
  unfold callAny.viaDunder
  refine wpR_bindA (call.at ?_)
  dsimp only
  rw [tc_bind]
  refine wpR_bindA (wpAny_pure (wpR_bindA (wpAny_pure ?_)))
  refine wpR_pure (a := Fin.again (.call (.builtin "type.__call__") ⟨.ref C :: rest, []⟩)) (And.intro rfl ?_)
  refine codeR_call_builtin_at (Code.quiet_builtin _ (by decide +kernel)) entry_typeCall (by decide +kernel) (check_slot tc_kind tc_split typ (tc_args _ _ _) ?_)
  unfold Builtin.«type.__call__»
  have hmr : Looks (model prog w) h (mroOf (.ref C)) cd.mro := ((Looks.ld (part := none) hC).andThen .now).andThen .now
  dsimp only
  rw [if_neg (show ¬ ((Value.ref C == Value.type "type") = true) from by intro q; cases q)]
  refine wpR_bindA (hmr.here ?_)
  rw [if_neg (by rw [e4]; decide)]
  refine wpR_bindA (made.here ?_)
  dsimp only
  refine wpR_bindA (wpAny_pure ?_)
  refine wpR_bindA (wpAny_holding (wpAny_call (new_K Y' hi' (.inl rfl) ?_)))
  have k : ∀ b o, h.get? b = some o → ((h.push emptyDict).push (instObj C h.objs.size)).get? b = some o := fun b o e => Heap.get?_push_of_some _ (Heap.get?_push_of_some _ e)
  have hx : ((h.push emptyDict).push (instObj C h.objs.size)).get? (h.objs.size + 1) = some (instObj C h.objs.size) := by heap_get
  have t1 : Looks (model prog w) ((h.push emptyDict).push (instObj C h.objs.size)) (typeOf (.ref (h.objs.size + 1))) (.ref C) := (Looks.ld hx).andThen .now
  have s1 := self.keeps k
  have i1 := hi'.keeps k
  have b1 := (hb (.ref (h.objs.size + 1))).keeps k
  have iI : Looks (model prog w) ((h.push emptyDict).push (instObj C h.objs.size)) (isInstance (.ref (h.objs.size + 1)) (.ref C)) true := by unfold isInstance; exact t1.andThen s1
  refine wpR_bindA (iI.here ?_)
  rw [if_neg (by decide)]
  refine wpR_bind (wpR_holding ?_)
  unfold callSpecial? specialOf
  refine wpR_bindA (wpAny_bind (t1.here (i1.here ?_)))
  dsimp only
  refine wpR_holding (wpR_bindA (b1.here ?_))
  dsimp only
  refine wpR_bind (wpR_call (codeR_mono hq fun r s' z => ?_))
  rcases r with e | (v | _ | _ | _) <;> first | exact z | exact z.elim | skip
  obtain ⟨rfl, z⟩ := z
  refine wpR_pure ?_
  dsimp only
  rw [if_neg (by decide)]
  exact wpR_pure z
end
end Mine
end F_Abs31
section F_Abs32
open PySem PySem.W PySem.Spec PySem.Calls PyProof.Rows
namespace Mine
noncomputable def SndER (nk : Str → Option NK) (n c : Nat) (e : Expr) (P : EvP) : Prop :=
  ∀ (X : Cx) (ℓ : Lc) (σ : St) (s : Shared) (Q : D → St → Prop) (E : Addr → St → Prop), Fm nk n c X → Dy X ℓ σ s.heap → P ℓ σ Q E →
    wpR (model prg X.w) X.A (eval e X.env) (PE X ℓ σ s Q) (PX X [] σ s E) s
noncomputable def SndSR (nk : Str → Option NK) (n c : Nat) (st : Stmt) (P : SP) : Prop :=
  ∀ (X : Cx) (ℓ : Lc) (σ : St) (s : Shared) (N : Lc → St → Prop) (R : D → St → Prop) (E : Addr → St → Prop), Fs nk n c X → Dy X ℓ σ s.heap → P ℓ σ N R E →
    wpR (model prg X.w) X.A (exec st X.env) (PS X σ s N R) (PX X [X.env.locals] σ s E) s
noncomputable def SndSsR (nk : Str → Option NK) (n c : Nat) (st : List Stmt) (P : SP) : Prop :=
  ∀ (X : Cx) (ℓ : Lc) (σ : St) (s : Shared) (N : Lc → St → Prop) (R : D → St → Prop) (E : Addr → St → Prop), Fs nk n c X → Dy X ℓ σ s.heap → P ℓ σ N R E →
    wpR (model prg X.w) X.A (execs st X.env) (PS X σ s N R) (PX X [X.env.locals] σ s E) s
noncomputable def SndFR (n : Nat) (f : Value) (P : FP) : Prop :=
  ∀ (nk : Str → Option NK) (c : Nat) (X : Cx) (ℓ : Lc) (σ : St) (s : Shared) (Q : D → St → Prop) (E : Addr → St → Prop) (vs : List Value) (ds : List D), Fm nk n c X → Dy X ℓ σ s.heap → VRs s.heap vs ds → P ds σ Q E →
    wpR (model prg X.w) X.A (call f vs) (PE X ℓ σ s Q) (PX X [] σ s E) s
noncomputable def SndFcR (n : Nat) (f : Value) (P : FP) : Prop :=
  ∀ (nk : Str → Option NK) (c : Nat) (X : Cx) (ℓ : Lc) (σ : St) (s : Shared) (Q : D → St → Prop) (E : Addr → St → Prop) (vs : List Value) (ds : List D), Fm nk n c X → Dy X ℓ σ s.heap → VRs s.heap vs ds → P ds σ Q E →
    codeR (model prg X.w) X.A (.call f ⟨vs, []⟩) (fun r s' => match r with | .ok (.ret v) => PE X ℓ σ s Q v s' | .ok _ => False | .error e => PX X [] σ s E e s') s
section
variable {nk : Str → Option NK} {n c : Nat}
theorem SndS.r {e P} (H : SndS nk n c e P) : SndSR nk n c e P := fun X ℓ σ s N R E fm dy hp => wpR.of (H X ℓ σ s N R E fm dy hp)
theorem SndSs.r {e P} (H : SndSs nk n c e P) : SndSsR nk n c e P := fun X ℓ σ s N R E fm dy hp => wpR.of (H X ℓ σ s N R E fm dy hp)
theorem SndFcR.f {f P} (H : SndFcR n f P) : SndFR n f P := fun nk c X ℓ σ s Q E vs ds fm dy rs hp => wpR_call (H nk c X ℓ σ s Q E vs ds fm dy rs hp)
section
variable {X : Cx} {ℓ : Lc} {σ σ1 : St} {s : Shared} {h1 : Heap} {tk1 : Nat} {E : Addr → St → Prop} {xs : List Addr}
theorem SndER.run {e P} (H : SndER nk n c e P) (fm : Fm nk n c X) (dy : Dy X ℓ σ1 h1) (kp : Kp X.fr xs σ s.heap σ1 h1) {Q1 : D → St → Prop} {R : Value → Shared → Prop} (hp : P ℓ σ1 Q1 E)
    (k : ∀ v d σ2 h2 tk2, VR h2 v d → Dy X ℓ σ2 h2 → Kp X.fr [] σ1 h1 σ2 h2 → Kp X.fr xs σ s.heap σ2 h2 → TupK h1 h2 → Q1 d σ2 → R v { s with heap := h2, toks := tk2 }) :
    wpR (model prg X.w) X.A (eval e X.env) R (PX X xs σ s E) { s with heap := h1, toks := tk1 } := by
  refine wpR_mono (H X ℓ σ1 { s with heap := h1, toks := tk1 } Q1 E fm dy hp) (fun v s' p => ?_) fun v s' p => (p.more fun a q => nomatch q).lift kp
  obtain ⟨d, σ', h', tk', rfl, vr, dy', kp', q⟩ := p
  exact k v d σ' h' tk' vr dy' kp' (kp.trans (kp'.more fun a q => nomatch q)) (Kp.tupK dy kp' fun _ q => nomatch q) q
theorem SndFR.run {f P vs ds} (H : SndFR n f P) (fm : Fm nk n c X) (dy : Dy X ℓ σ1 h1) (kp : Kp X.fr xs σ s.heap σ1 h1) (rs : VRs h1 vs ds) {Q1 : D → St → Prop} {R : Value → Shared → Prop} (hp : P ds σ1 Q1 E)
    (k : ∀ v d σ2 h2 tk2, VR h2 v d → Dy X ℓ σ2 h2 → Kp X.fr [] σ1 h1 σ2 h2 → Kp X.fr xs σ s.heap σ2 h2 → TupK h1 h2 → Q1 d σ2 → R v { s with heap := h2, toks := tk2 }) :
    wpR (model prg X.w) X.A (call f vs) R (PX X xs σ s E) { s with heap := h1, toks := tk1 } := by
  refine wpR_mono (H nk c X ℓ σ1 { s with heap := h1, toks := tk1 } Q1 E vs ds fm dy rs hp) (fun v s' p => ?_) fun v s' p => (p.more fun a q => nomatch q).lift kp
  obtain ⟨d, σ', h', tk', rfl, vr, dy', kp', q⟩ := p
  exact k v d σ' h' tk' vr dy' kp' (kp.trans (kp'.more fun a q => nomatch q)) (Kp.tupK dy kp' fun _ q => nomatch q) q
theorem SndSsR.run {st P} {N : Lc → St → Prop} {R : D → St → Prop} (H : SndSsR nk n c st P) (fs : Fs nk n c X) (dy : Dy X ℓ σ1 h1) (kp : Kp X.fr [X.env.locals] σ s.heap σ1 h1) (hp : P ℓ σ1 N R E) :
    wpR (model prg X.w) X.A (execs st X.env) (PS X σ s N R) (PX X [X.env.locals] σ s E) { s with heap := h1, toks := tk1 } :=
  wpR_mono (H X ℓ σ1 { s with heap := h1, toks := tk1 } N R E fs dy hp) (fun f s' p => p.lift kp) fun v s' p => p.lift kp
theorem callWR {f : Value} {first : List Value} {fds : List D} {args : List Expr} {pos Ps PF} {Q : D → St → Prop} (Hs : SndEs nk n c pos args Ps) (hF : SndFR n f PF) (hk : ∀ h, (KF X.w).In h → ∃ k, (k = Keeper.frame ∨ k = Keeper.machine ∨ k = Keeper.boundFrame) ∧ Looks (model prg X.w) h (keeperOf f) k) (hpl : ∀ env, (backTo pos (starEach args env)).any (·.1) = false)
    (fm : Fm nk n c X) (dy : Dy X ℓ σ1 h1) (kp : Kp X.fr [] σ s.heap σ1 h1) (rf : VRs h1 first fds) (hp : Ps ℓ σ1 (fun ds σ2 => PF (fds ++ ds) σ2 Q E) E) :
    wpR (model prg X.w) X.A (callWith pos f first (backTo pos (starEach args X.env)) []) (PE X ℓ σ s Q) (PX X [] σ s E) { s with heap := h1, toks := tk1 } := by
  refine wpR_callWith (P := (KF X.w).In) (hpl _) hk (evalArgs_of (hpl _) (Hs.run fm dy kp hp fun vs ds σ2 h2 tk2 rs dy2 _ kp2 t2 hp2 => ?_))
  refine ⟨dy2.KB fm.G, hF.run fm dy2 kp2 ((rf.keep t2).append rs) hp2 fun v d σ3 h3 tk3 rv dy3 _ kp3 t3 hp3 => PE.mk rv dy3 kp3 hp3⟩
end
theorem SndER.call {x v p pos args Ps PF} (hx : nk x = some .glb) (hg : GName x v) (hd : (x == ("__debug__" : Str)) = false) (hF : SndFR n v PF) (hk : KOk v) (Hs : SndEs nk n c pos args Ps) (hpl : ∀ env, (backTo pos (starEach args env)).any (·.1) = false) :
    SndER nk n c (.Call (.Name x p) args [] pos) (pCall PF Ps) := fun X ℓ σ s Q E fm dy hp => by
  refine wpR_Call_Name (glob_ok (s := s) (h1 := s.heap) (tk1 := s.toks) fm dy hx hg hd ?_)
  exact callWR (first := []) (fds := []) Hs hF (hk X.w) hpl fm dy .refl .nil hp
theorem wpR_method {w : World} {A : Around} {E : Value → Shared → Prop} {s : Shared} {env : Env} {o : Expr} {name : Str} {apos pos : Pos} {args : List Expr} {Q : Value → Shared → Prop}
    (hbase : attributeBase o name env (eval o env) = eval o env)
    (hform : methodCallForm (args.length + ([] : List Keyword).length) (backTo pos (starEach args env)) (backToKw pos (keywordEach [] env)) = true)
    (hline : (apos.endLine == pos.line) = true)
    (h : wpAny (model prg w) A (eval o env) (fun ov s₁ => ∀ pl, wpAny (model prg w) A (getMethod ov name pl) (fun fm s₂ => wpR (model prg w) A (callWith pos fm.1 fm.2 (backTo pos (starEach args env)) []) Q E s₂) E s₁) E s) :
    wpR (model prg w) A (eval (.Call (.Attribute o name apos) args [] pos) env) Q E s := by
  rw [arm_eval_Call, hbase]
  refine wpR_bindA (wpAny_mono h (fun ov s₁ h₁ => ?_) fun _ _ e => e)
  refine wpR_bindA (wpAny_standAt ?_)
  have hpos : methodCallPos true o env apos pos = pure pos := by unfold methodCallPos; simp [hline]
  unfold methodCall
  rw [hform]
  refine wpR_bindA (wpAny_holding (wpAny_mono (h₁ _) (fun fm s₂ h₂ => ?_) fun _ _ e => e))
  exact wpR_bindA (wpAny_of_eq hpos h₂)
theorem SndER.meth {o x apos pos args C f F Po Ps} (Ho : SndE nk n c o Po) (Hs : SndEs nk n c pos args Ps) (hok : ∀ w, MethOk w C x f) (hF : SndFR n (.ref f) F) (hk : KOk (.ref f)) (hpl : ∀ env, (backTo pos (starEach args env)).any (·.1) = false)
    (hbase : ∀ env, attributeBase o x env (eval o env) = eval o env) (hform : ∀ env, methodCallForm (args.length + ([] : List Keyword).length) (backTo pos (starEach args env)) (backToKw pos (keywordEach [] env)) = true) (hline : (apos.endLine == pos.line) = true) :
    SndER nk n c (.Call (.Attribute o x apos) args [] pos) (pMeth C x F Po Ps) := fun X ℓ σ s Q E fm dy hp => by
  refine wpR_method (hbase _) (hform _) hline (Ho.run (h1 := s.heap) (tk1 := s.toks) fm dy .refl hp fun vo o σ1 h1 tk1 ro dy1 _ kp1 t1 hp1 => ?_)
  intro pl
  cases o with
  | ref a =>
    obtain ⟨td, fs, ha, hf, hl, hq⟩ := hp1
    cases ro.ref_inv
    have r1 := dy1.rep _ _ ha
    obtain ⟨es, m, r2, rr⟩ := dy1.rep _ _ hf
    have I : InstAt h1 a (instObj C td) C (some (dictOf es m)) := ⟨r1, rfl, rfl, r2⟩
    refine method_fn (s := { s with heap := h1, toks := tk1 }) (dy1.KB fm.G) I (plainGet_of (hok X.w).pg).1 (plainGet_of (hok X.w).pg).2 (hok X.w).pf (beq_iff_eq.mp (hok X.w).pt) (by show (lookIn x (dictOf es m)).map _ = _; rw [lookIn_dict, rr.getN hl]; rfl) ?_
    exact callWR (first := [.ref a]) (fds := [.ref a]) Hs hF (hk X.w) hpl fm dy1 kp1 (.cons (.ref _) .nil) hq
  | _ => exact hp1.elim
theorem SndER.methB {o x apos pos args T id F Po Ps} (Ho : SndE nk n c o Po) (Hs : SndEs nk n c pos args Ps) (hF : SndFR n (.builtin id) F) (pa : PlainAttrs T) (slot : Slot T x id) (hty : typeOf (.builtin id) = pure (.type "method_descriptor")) (hpl : ∀ env, (backTo pos (starEach args env)).any (·.1) = false)
    (hbase : ∀ env, attributeBase o x env (eval o env) = eval o env) (hform : ∀ env, methodCallForm (args.length + ([] : List Keyword).length) (backTo pos (starEach args env)) (backToKw pos (keywordEach [] env)) = true) (hline : (apos.endLine == pos.line) = true) :
    SndER nk n c (.Call (.Attribute o x apos) args [] pos) (pMethB T F Po Ps) := fun X ℓ σ s Q E fm dy hp => by
  refine wpR_method (hbase _) (hform _) hline (Ho.run (h1 := s.heap) (tk1 := s.toks) fm dy .refl hp fun vo o σ1 h1 tk1 ro dy1 _ kp1 t1 hp1 => ?_)
  intro pl
  refine isT_ok (s := s) dy1 hp1.1 ro pa slot hty ?_
  exact callWR (first := [vo]) (fds := [o]) Hs hF (KOk.bi id X.w) hpl fm dy1 kp1 (.cons ro .nil) hp1.2
theorem SndSR.asg {k x px e pos P} (H : SndER nk n c e P) (hx : nk x = some k) (hs : ∀ env, swapsWith e (some (.Name x px)) pos.line env = pure false) : SndSR nk n c (.Assign [.Name x px] e pos) (sAsg k x P) := fun X ℓ σ s N R E fs dy hp => by
  refine wpR_Assign_Name (wpR_mono (H.run (h1 := s.heap) (tk1 := s.toks) (xs := [X.env.locals]) fs.toFm dy .refl hp fun v d σ1 h1 tk1 rd dy1 _ kp1 t1 hp1 => ?_) (fun _ _ p => p) fun _ _ p => p) (hs _)
  exact store_ok fs.toFm dy1 hx rd hp1 fun ℓ2 σ2 h2 tk2 dy2 kp2 t2 hp2 => PS.next dy2 (kp1.trans kp2) hp2
theorem SndSR.asgA {x e o pos pos' C P Po} (H : SndER nk n c e P) (Ho : SndE nk n c o Po) (hok : ∀ w, AttrSet w C x) (hs : ∀ env, swapsWith e (some (.Attribute o x pos')) pos.line env = pure false) : SndSR nk n c (.Assign [.Attribute o x pos'] e pos) (sAsgA C x P Po) := fun X ℓ σ s N R E fs dy hp => by
  refine wpR_Assign_Attribute (H.run (h1 := s.heap) (tk1 := s.toks) (xs := [X.env.locals]) fs.toFm dy .refl hp fun v d σ1 h1 tk1 rd dy1 _ kp1 t1 hp1 => ?_) (hs _)
  refine Ho.run fs.toFm dy1 kp1 hp1 fun vo o σ2 h2 tk2 ro dy2 _ kp2 t2 hp2 => ?_
  cases o with
  | ref a =>
    obtain ⟨td, fs', ha, hf, hz, hq⟩ := hp2
    cases ro.ref_inv
    exact attr_set fs.G dy2 (hok _) ha hf hz (rd.keep t2) fun h3 tk3 dy3 kp3 t3 => PS.next dy3 (kp2.trans (kp3.more nilSub)) hq
  | _ => exact hp2.elim
theorem SndSR.expr {e pos P} (H : SndER nk n c e P) (hs : ∀ env, swapsWith e none pos.line env = pure false) : SndSR nk n c (.Expr e pos) (sExpr P) := fun X ℓ σ s N R E fs dy hp => by
  refine wpR_Expr (H.run (h1 := s.heap) (tk1 := s.toks) (xs := [X.env.locals]) fs.toFm dy .refl hp fun v d σ1 h1 tk1 rd dy1 _ kp1 t1 hp1 => ?_) (by unfold interactive; rw [fs.kind]; rfl) (hs _)
  exact PS.next dy1 kp1 hp1
theorem SndSsR.cons {st rest P1 P2} (H1 : SndSR nk n c st P1) (H2 : SndSsR nk n c rest P2) : SndSsR nk n c (st :: rest) (sSeq P1 P2) := fun X ℓ σ s N R E fs dy hp => by
  refine wpR_execs_cons (wpR_mono (H1 X ℓ σ s _ R E fs dy hp) (fun f s' p => ?_) fun _ _ p => p)
  rcases p with ⟨rfl, ℓ', σ', h', tk', rfl, dy', kp', q⟩ | ⟨v, d, ℓ', σ', h', tk', rfl, rfl, vr, dy', kp', q⟩
  · exact H2.run fs dy' kp' q
  · exact PS.ret vr dy' kp' q
end
end Mine
end F_Abs32
section F_Abs33
open PySem PySem.W PySem.Spec PySem.Calls PyProof.Rows
namespace Mine
theorem SndFcR.def_ {f : Addr} {qual : Str} {params : Arguments} {body : List Stmt} {scope : Scope} {bs : List D → Option (List (Str × D))} {cd : Option Addr} {n c : Nat} {P : SP} (Df : DefAt f qual params body scope bs cd) (hc : c ≤ 8)
    (H : SndSsR (nkD scope.names cd (qual ++ ".<locals>.")) n c body P) : SndFcR (n + 1) (.ref f) (pDef scope.names bs P) := fun nk' c' X ℓ σ s Q E vs ds fm dy rs hp => by
  obtain ⟨loose, mean, mg, mb, T⟩ := fm.G.T
  obtain ⟨oc, od, osl, name, dV, kV, doc, pm, an, cdv, ct, ho, hcd, hcdv, hb⟩ := Df.at_ X.w
  have K0 := dy.KB fm.G
  unfold pDef at hp
  cases q : bs ds with
  | none => rw [q] at hp; exact hp.elim
  | some b =>
    rw [q] at hp
    dsimp only at hp
    obtain ⟨vb, hbt, hbr⟩ := hb s vs ds b K0 rs q
    have hroom : X.A.depth < recursionLimit := by have := fm.depth; omega
    refine codeR_call_function hroom (K0 _ _ ho) rfl Df.co Df.gen rfl (codeRec_of K0 hcd) (hbt _ _ _ _ ?_)
    have hkind : (vb.all fun y => scope.names.lookup y.1 == some .local || scope.names.lookup y.1 == some .cell) = true := by
      rw [List.all_eq_true]
      intro y hy
      have : y.1 ∈ b.map (·.1) := by rw [← hbr.names]; exact List.mem_map_of_mem hy
      rcases Df.kinds ds b q _ this with z | z <;> simp [z]
    refine wpAny_newFunctionEnv_cells Df.kind (kindsX hkind _) fun env he s' x => ?_
    have hf : env.frame = some s.heap.objs.size := by rw [he]; rfl
    have hL : env.locals = s.heap.objs.size := by rw [he]; rfl
    have hk : env.scope.kind = .function := by rw [he]; exact Df.kind
    have hsc : env.scope = scope := by rw [he]; rfl
    have hkf : env.kindOf = fun x => scope.names.lookup x := by funext x; show env.scope.names.lookup x = _; rw [hsc]
    have hcl : env.cells = cellsFrom (s.heap.objs.size + 1) scope.names [] := by rw [he]; rfl
    obtain ⟨h1, tk1, rfl, hup⟩ := x.done
    have hnd : (env.cells.map (·.1)).Nodup := by rw [hcl, cellsFrom_names scope.names (s.heap.objs.size + 1) 0 [] [] rfl]; exact Df.nd
    have rm := fun h' (t : TupK s.heap h') => (hbr.keep t).loc env.kindOf RelM.none
    have rc := fun h' (t : TupK s.heap h') => (hbr.keep t).cel env.kindOf RelM.none
    obtain ⟨dy1, kpE, t1, nd1, fr1⟩ := enter_dy dy hf hL hk rfl x rm rc hnd
    refine ⟨(T.nolimit.keeps dy.stays).keeps hup, codeR_func ?_⟩
    have fs : Fs (nkD scope.names cd (qual ++ ".<locals>.")) n c (X.inner env) := inner_fs (cd := cd) fm hf hL hk (by rw [hsc, he]; rfl) (fun c e => by rw [he]; exact hcdv c e) (by rw [he]; rfl) (by rw [he]; rfl) hc
    have hp1 := hp env.cells (by rw [hcl]; exact cellsFrom_names scope.names _ 0 [] [] rfl) nd1 fr1
    rw [← hkf] at hp1
    refine wpR_mono (H (X.inner env) _ _ { s with heap := h1, toks := tk1 } _ _ E fs dy1 hp1) (fun fl s' p => ?_) fun v s' p => ?_
    · rcases p with ⟨rfl, ℓ', σ', h', tk', rfl, dy', kp', hq⟩ | ⟨v, d, ℓ', σ', h', tk', rfl, rfl, vr, dy', kp', hq⟩
      · have kpT := inner_outer dy hf hL kpE kp'
        exact PE.mk (σ := σ) .none (dy.back kpT dy' rfl) kpT hq
      · have kpT := inner_outer dy hf hL kpE kp'
        exact PE.mk (σ := σ) vr (dy.back kpT dy' rfl) kpT hq
    · obtain ⟨C, e, ℓ', σ', h', tk', rfl, rfl, dy', kp', ex, hq⟩ := p
      refine leaving_ok (X := X.inner env) (xs := [env.locals]) (σ0 := putCells env.cells (bindCD env.kindOf b fun _ => none) σ) (h0 := h1) fs.toFm fs.frames dy' kp' ex fun h2 tk2 dy2 kp2 ex2 => ?_
      have kpT := inner_outer dy hf hL kpE kp2
      exact ⟨C, e, ℓ, σ', h2, tk2, rfl, rfl, dy.back kpT dy2 rfl, kpT, (ex2.at.back (kpE [] [])).of rfl, hq⟩
theorem SndFR.new {C fI : Addr} {n : Nat} {init : FP} (hok : ∀ w, MakeOk w C fI) (H : SndFcR n (.ref fI) init) : SndFR (n + 1) (.ref C) (fNew C init) := fun nk c X ℓ σ s Q E vs ds fm dy rs hp => by
  unfold fNew at hp
  obtain ⟨hh, g, dr, tk, os⟩ := s
  dsimp only at dy rs
  refine wpR_call (wpR_typeCall (dy.KB fm.G) (hok X.w).m (hok X.w).i (hok X.w).t ?_)
  have up : ∀ b o, hh.get? b = some o → ((hh.push emptyDict).push (instObj C hh.objs.size)).get? b = some o := fun b o e => Heap.get?_push_of_some _ (Heap.get?_push_of_some _ e)
  have gx : ((hh.push emptyDict).push (instObj C hh.objs.size)).get? (hh.objs.size + 1) = some (instObj C hh.objs.size) := by heap_get
  have gd : ((hh.push emptyDict).push (instObj C hh.objs.size)).get? hh.objs.size = some emptyDict := Heap.get?_push_of_some _ (Heap.get?_push_size _ rfl)
  generalize hH : (hh.push emptyDict).push (instObj C hh.objs.size) = H1 at up gx gd ⊢
  have hdx : New hh hh.objs.size := dy.newA
  have hx : New hh (hh.objs.size + 1) := New.ge dy (Nat.le_succ _)
  have ndx : hh.objs.size ≠ hh.objs.size + 1 := Nat.ne_of_lt (Nat.lt_succ_self _)
  obtain ⟨dyG, kpG, t⟩ := dy.grow up
  obtain ⟨dy1, kp1⟩ := dy.addTo (o := .attrs []) dyG kpG hdx ⟨[], 0, gd, .nil⟩
  have nf : hh.objs.size + 1 ∉ X.fr := fun q => by
    obtain ⟨m, hn, _⟩ := dy.frD q
    obtain ⟨o, e⟩ := ns_some hn
    rw [hx.1] at e; cases e
  have dy2 : Dy X ℓ ((σ.put hh.objs.size (.attrs [])).put (hh.objs.size + 1) (.inst C hh.objs.size)) H1 := dy1.addAt nf (dy.noB hx) hx.2 ((St.put_ne (Ne.symm ndx)).trans (dy.fresh hx)) gx
  have kp2 : Kp X.fr [] σ hh ((σ.put hh.objs.size (.attrs [])).put (hh.objs.size + 1) (.inst C hh.objs.size)) H1 := kp1.addAt hx
  let A' := X.A.under (.builtin "type.__call__" ⟨.ref C :: vs, []⟩)
  have hA : A' = { X.A with depth := X.A.depth + 1, units := X.A.units + 1 } := by
    show X.A.under _ = _
    unfold Around.under
    rfl
  have fm' : Fm nk n c { X with A := A' } := by
    rw [hA]
    exact ⟨fm.G, fm.fr, fm.frames, fm.handled, fm.guards, (by have := fm.depth; show X.A.depth + 1 + n + 4 < _; omega), (by have := fm.units; show X.A.units + 1 + 200 * n + 10 * c + 100 < _; lia), fm.kind, fm.names, fm.globals, fm.builtins⟩
  refine codeR_mono (H nk c { X with A := A' } ℓ _ ⟨H1, g, dr, tk, os⟩ _ E (.ref (hh.objs.size + 1) :: vs) (.ref (hh.objs.size + 1) :: ds) fm' dy2.cA (.cons (.ref _) (rs.keep t)) (hp _ _ (dy.fresh hx) (dy.fresh hdx) ndx)) fun r s' p => ?_
  unfold InitBack
  rcases r with e | (v | _ | _ | _)
  · dsimp only at p ⊢
    obtain ⟨C', e', ℓ', σ', h2, tk', rfl, rfl, dy', kp', ex, q⟩ := p
    exact ⟨C', e', ℓ', σ', h2, tk', rfl, rfl, dy'.cA', kp2.trans kp', (ex.back kp2).of rfl, q⟩
  · exact p.elim
  · exact p.elim
  · exact p.elim
  · dsimp only at p ⊢
    obtain ⟨d, σ', h2, tk', rfl, rv, dy', kp', rfl, q⟩ := p
    cases rv
    exact ⟨rfl, PE.mk (tk' := tk') (.ref _) dy'.cA' (kp2.trans kp') q⟩
section
variable {nk : Str → Option NK} {n c : Nat} {X : Cx} {ℓ : Lc} {σf : St} {s : Shared} {h1 h2 : Heap} {tk1 tk2 : Nat} {N : Lc → St → Prop} {R : D → St → Prop} {E : Addr → St → Prop}
theorem loopR_ok {t : Tgt} {tgt : Expr} {body : List Stmt} {B : SP} {I : Addr} {len : Nat} {P : Nat → Heap → Value → Prop} {it : Nat → Heap → Prop} {Rest : Heap → Prop} {xs : List D} {fz : Option Addr} (fs : Fs nk n c X) (ht : TgtOk nk t tgt) (HB : SndSsR nk n c body B)
    (dy1 : Dy X ℓ σf h1) (up : ∀ a o, h1.get? a = some o → h2.get? a = some o) (hI : New h1 I) (hIf : I ∉ X.fr) (hlen : len = xs.length) (S : VSrc X.w X.A I len tgt P it Rest) (h0 : it 0 h2)
    (hfz : ∀ a, fz = some a → σf a = none ∧ a ∉ X.fr) (hR : ∀ h, (∀ a ob, fz = some a → h1.get? a = some ob → h.get? a = some ob) → TupK h1 h → Rest h) (hP : ∀ i h v, i < len → P i h v → TupK h1 h → ∃ x, xs[i]? = some x ∧ VR h v x)
    (hp : forP t B xs ℓ σf N R E) :
    codeR (model prg X.w) X.A (.forLoop tgt (.ref I) body [] X.env) (fun r s' => match r with | .ok f => PS X σf { s with heap := h1, toks := tk1 } N R f s' | .error e => cameBackBy (model prg X.w) X.A X.env (PX X [X.env.locals] σf { s with heap := h1, toks := tk1 } E) e s') { s with heap := h2, toks := tk2 } := by
  let Inv : Nat → Shared → Prop := fun k s' => ∃ h tk i ℓ' σ', s' = { s with heap := h, toks := tk } ∧ i ≤ len ∧ k = len + 1 - i ∧ it i h ∧ Dy X ℓ' σ' h ∧ Kp X.fr [X.env.locals] σf h1 σ' h ∧ σ' I = none ∧ forP t B (xs.drop i) ℓ' σ' N R E
  obtain ⟨dy2, kp2, _⟩ := dy1.grow up
  have hL : X.env.locals ∈ X.fr := .head _
  refine codeR_forLoop Inv ?_ (len + 1) ⟨h2, tk2, 0, ℓ, σf, rfl, Nat.zero_le _, rfl, h0, dy2, kp2.more nilSub, dy1.fresh hI, by simpa using hp⟩
  rintro k s' ⟨h, tk, i, ℓ', σ', rfl, hi, rfl, hit, dy, kp, hσI, hp'⟩
  have tk1' : TupK h1 h := kp.tupK dy1 locSub
  have hrest : Rest h := hR h (fun a ob e ho => kp.keep a ob ho (hfz a e).1 (hfz a e).2 fun q => (hfz a e).2 (locSub a q)) tk1'
  obtain ⟨oI, hoI, vI, hdI⟩ := S.some_ _ _ hit
  by_cases hlt : i < len
  · have hx : i < xs.length := hlen ▸ hlt
    have hdrop : xs.drop i = xs[i] :: xs.drop (i + 1) := List.drop_eq_getElem_cons hx
    rw [hdrop] at hp'
    have es : EsOk X σ' h [I] := ⟨fun a ha => by
      rw [List.mem_singleton.mp ha]
      refine ⟨hσI, ?_, oI, hoI, notSeq_fields hdI⟩
      cases q : X.hB.get? I with
      | none => rfl
      | some o => have := dy1.stays _ _ q; rw [hI.1] at this; cases this⟩
    refine wpAny_mono (S.item i { s with heap := h, toks := tk } (fun v s₂ => wpAny (model prg X.w) X.A (assign tgt X.env v) (fun _ s₂ => wpR (model prg X.w) X.A (execs body X.env) (fun f s₃ => match f with
            | .next | .cont => ∃ k, k < len + 1 - i ∧ Inv k s₃
            | .brk => PS X σf { s with heap := h1, toks := tk1 } N R .next s₃
            | .ret v => PS X σf { s with heap := h1, toks := tk1 } N R (.ret v) s₃) (notedBy (model prg X.w) X.A X.env fun e s' => cameBackBy (model prg X.w) X.A X.env (PX X [X.env.locals] σf { s with heap := h1, toks := tk1 } E) e s') s₂) (notedBy (model prg X.w) X.A X.env fun e s' => cameBackBy (model prg X.w) X.A X.env (PX X [X.env.locals] σf { s with heap := h1, toks := tk1 } E) e s') s₂) _ hlt hit hrest fun v h3 tk3 hPv hit3 hk3 => ?_) (fun r s₁ hr => ?_) fun _ _ e => e
    · obtain ⟨oI3, hoI3, vI3, hdI3⟩ := S.some_ _ _ hit3
      have w3 : Wd X [I] h h3 := ⟨fun a o e _ n => hk3 a o (fun q => n (q ▸ .head _)) e, fun a m q hn => hn.at' fun o e => hk3 a o (fun z => hIf (z ▸ q)) e, fun a o e n => by
        by_cases q : a = I
        · subst q; exact ⟨_, hoI3⟩
        · exact ⟨o, hk3 a o q e⟩⟩
      have dy3 := w3.dy dy es
      have kp3 := w3.kp kp fun a ha => by rw [List.mem_singleton.mp ha]; exact hI.1
      have t3 : TupK h1 h3 := kp3.tupK dy1 locSub
      obtain ⟨x, hx', rv⟩ := hP i h3 v hlt hPv t3
      have ex : x = xs[i] := by rw [List.getElem?_eq_getElem hx] at hx'; exact (Option.some.inj hx').symm
      subst ex
      refine tgt_ok fs.toFm ht dy3 rv hp' fun ℓ4 σ4 h4 tk4 dy4 kp4 t4 hp4 => ?_
      have hoI4 := kp4.keep I oI3 hoI3 hσI hIf fun q => hIf (locSub I q)
      have hσI4 := kp4.none_ hoI3 hσI
      refine wpR_mono (HB X ℓ4 σ4 { s with heap := h4, toks := tk4 } _ R E fs dy4 hp4) (fun f s₃ p => ?_) fun e s₃ p => ?_
      · rcases p with ⟨rfl, ℓ5, σ5, h5, tk5, rfl, dy5, kp5, hp5⟩ | ⟨v, d, ℓ5, σ5, h5, tk5, rfl, rfl, vr, dy5, kp5, hp5⟩
        · exact ⟨len + 1 - (i + 1), by omega, h5, tk5, i + 1, ℓ5, σ5, rfl, hlt, rfl, S.at_ _ _ _ _ hit3 hoI3 (kp5.keep I oI3 hoI4 hσI4 hIf fun q => hIf (locSub I q)), dy5, (kp3.trans kp4).trans kp5, kp5.none_ hoI4 hσI4, hp5⟩
        · exact PS.ret vr dy5 ((kp3.trans kp4).trans kp5) hp5
      · obtain ⟨C, e', ℓ5, σ5, h5, tk5, rfl, rfl, dy5, kp5, ex5, hq⟩ := p
        refine note_ok (A := X.A) (s := s) (xs := [X.env.locals]) (σ0 := σf) (h0 := h1) fs.toFm fs.frames dy5 ((kp3.trans kp4).trans kp5) (ex5.back (kp3.trans kp4)) fun h6 tk6 dy6 kp6 ex6 => ?_
        exact back_ok (s := s) (xs := [X.env.locals]) (σ0 := σf) (h0 := h1) dy6 kp6 ex6 fun h7 tk7 dy7 kp7 ex7 => ⟨C, e', ℓ5, σ5, h7, tk7, rfl, rfl, dy7, kp7, ex7.at, hq⟩
    · obtain ⟨v, rfl, hv⟩ := hr
      exact hv
  · obtain rfl : i = len := by lia
    have es : EsOk X σ' h [I] := ⟨fun a ha => by
        rw [List.mem_singleton.mp ha]
        refine ⟨hσI, ?_, oI, hoI, notSeq_fields hdI⟩
        cases q : X.hB.get? I with
        | none => rfl
        | some o => have := dy1.stays _ _ q; rw [hI.1] at this; cases this⟩
    refine S.done _ _ _ hit hrest fun h3 tk3 hk3 => ?_
    have w3 : Wd X [I] h h3 := ⟨fun a o e _ n => hk3 a o (fun q => n (q ▸ .head _)) e, fun a m q hn => hn.at' fun o e => hk3 a o (fun z => hIf (z ▸ q)) e, fun a o e n => ⟨o, hk3 a o (fun q => n (q ▸ .head _)) e⟩⟩
    have hnil : xs.drop i = [] := List.drop_eq_nil_of_le (Nat.le_of_eq hlen.symm)
    rw [hnil] at hp'
    exact PS.next (w3.dy dy es) (w3.kp kp fun a ha => by rw [List.mem_singleton.mp ha]; exact hI.1) hp'
theorem SndSR.for_ {t : Tgt} {tgt it : Expr} {body : List Stmt} {P : EvP} {B : SP} {pos : Pos} (ht : TgtOk nk t tgt) (H : SndE nk n c it P) (HB : SndSsR nk n c body B) (hfs : ∀ env x, foldedSetIterable it env x = pure x) : SndSR nk n c (.For tgt it body [] pos) (sFor t P B) := by
  intro X ℓ σ s N R E fs dy hp
  refine wpR_For ?_ fun x => hfs X.env x
  refine H.run fs.toFm dy (xs := [X.env.locals]) Kp.refl hp fun v d σ1 h1 tk1 rv dy1 _ kp1 _ ⟨hok, xs, fz, hs, hl⟩ => ?_
  have dyf : Dy X ℓ (σ1.frz fz) h1 := dy1.frz
  have hfz : ∀ a, fz = some a → σ1.frz fz a = none ∧ a ∉ X.fr := fun a e => ⟨frz_at e, fun q => hs.fz a e (dy1.off a q)⟩
  have hf : ∀ a, fz = some a → ∃ o, h1.get? a = some o := fun a e => by
    cases q : σ1 a with
    | none => exact absurd q (hs.fz a e)
    | some o => obtain ⟨ob, z, _⟩ := (dy1.rep a o q).some_; exact ⟨ob, z⟩
  refine iter_ok fs.toFm dy1 hs rv ht.is (NotItems.to ht hok) fun o len P' it' Rest hlen S h0 hsz hR hP => ?_
  have hI : New h1 h1.objs.size := dy1.newA
  refine codeR_mono (loopR_ok (s := s) (tk1 := tk1) fs ht HB dyf (fun a o e => Heap.get?_push_of_some _ e) hI (fun q => by
    obtain ⟨m, ⟨o, _, _, e, _⟩, _⟩ := dy1.frD q
    rw [hI.1] at e; cases e) hlen S h0 hfz hR hP hl) fun r s' hr => ?_
  cases r with
  | ok f =>
    rcases hr with ⟨rfl, ℓ', σ', h', tk', rfl, dy', kp', q⟩ | ⟨v, d, ℓ', σ', h', tk', rfl, rfl, vr, dy', kp', q⟩
    · obtain ⟨dy2, kp2⟩ := thaw_ok dy1 hs.fz dy' kp' locSub
      exact PS.next dy2 (kp1.trans kp2) q
    · obtain ⟨dy2, kp2⟩ := thaw_ok dy1 hs.fz dy' kp' locSub
      exact PS.ret vr dy2 (kp1.trans kp2) q
  | error e =>
    refine cameBackBy_mono (fun v s' p => ?_) hr
    obtain ⟨C, e, ℓ', σ', h', tk', rfl, rfl, dy', kp', ex, q⟩ := p
    obtain ⟨dy2, kp2⟩ := thaw_ok dy1 hs.fz dy' kp' locSub
    exact ⟨C, e, ℓ', _, h', tk', rfl, rfl, dy2, kp1.trans kp2, (ex.thaw hf).back kp1, q⟩
end
end Mine
end F_Abs33
section F_Abs34
open PySem PySem.W PySem.Spec PySem.Calls
namespace Mine
namespace BF
theorem mro : mroOf (.type "bytearray") = pure [.type "bytearray", .type "object"] := by rw [mroOf_type]; kernel_rfl
theorem lookup_new : typeLookup (.type "bytearray") "__new__" = pure (some (.builtin "bytearray.__new__")) := by rw [typeLookup_type, builtinLookup_eq_fast]; kernel_rfl
theorem slot_init : Slot "bytearray" "__init__" "bytearray.__init__" :=
  .of (owner := "bytearray") (n := "__init__") (by rw [typeLookup_type, builtinLookup_eq_fast]; kernel_rfl) (by decide +kernel) (by decide +kernel) (by decide +kernel)
    (by first | exact .inl (by decide +kernel) | exact .inr (by decide +kernel)) (by rw [isSubtype_type]; kernel_rfl)
theorem sub : isSubtype (.type "bytearray") (.type "bytearray") = pure true := by rw [isSubtype_type]; kernel_rfl
theorem called : TypeCalled "bytearray" "bytearray.__new__" "bytearray.__init__" :=
  ⟨by decide +kernel, by decide +kernel, ⟨_, _, mro⟩, madeBy_type mro lookup_new (by decide +kernel), by decide +kernel, sub, slot_init⟩
theorem typeCall0 : checkTypeCall "bytearray" ⟨[], []⟩ = pure () := by kernel_rfl
theorem newCall0 : checkBuiltinCall "bytearray.__new__" ⟨[.type "bytearray"], []⟩ = pure () := by kernel_rfl
theorem entry_new : entryFor table "bytearray.__new__" = some Builtin.«list.__new__» := entryFor_alias (id' := "list.__new__") (by rw [fastTable_eq_tree]; kernel_rfl) (by first | rfl | decide +kernel) (by decide +kernel) (by rw [fastTable_eq_tree]; kernel_rfl)
theorem entry_init : entryFor table "bytearray.__init__" = some Builtin.«bytearray.__init__» := entryFor_of_tree (by kernel_rfl)
theorem plain_new : plainId "bytearray.__new__" = true := by decide +kernel
theorem plain_init : plainId "bytearray.__init__" = true := by decide +kernel
theorem args_init0 (a : Value) : argsOk "bytearray.__init__" ⟨[a], []⟩ := by unfold argsOk; kernel_rfl
theorem bind0 : Builtin.Bytes.bindOptional "bytearray.__init__" "bytearray" ["source", "encoding", "errors"] [] [] = pure [none, none, none] := by kernel_rfl
theorem lookup_release : typeLookup (.type "bytearray") "__release_buffer__" = pure (some (.builtin "bytearray.__release_buffer__")) := by rw [typeLookup_type, builtinLookup_eq_fast]; kernel_rfl
set_option maxRecDepth 1000000 in
set_option maxHeartbeats 4000000 in
theorem owner_new : ("bytearray.__new__".splitOn ".__new__").headD "" = "bytearray" := by simp +decide [String.splitOn, String.splitOnAux]
theorem plain_extend : plainId "bytearray.extend" = true := by decide +kernel
theorem entry_extend : entryFor table "bytearray.extend" = some Builtin.«bytearray.extend» := entryFor_of_tree (by kernel_rfl)
theorem slot_extend : Slot "bytearray" "extend" "bytearray.extend" :=
  .of (owner := "bytearray") (n := "extend") (by rw [typeLookup_type, builtinLookup_eq_fast]; kernel_rfl) (by decide +kernel) (by decide +kernel) (by decide +kernel)
    (by first | exact .inl (by decide +kernel) | exact .inr (by decide +kernel)) (by rw [isSubtype_type]; kernel_rfl)
theorem args_extend (a b : Value) : argsOk "bytearray.extend" ⟨[a, b], []⟩ := by unfold argsOk; kernel_rfl
theorem lookup_buffer : typeLookup (.type "bytes") "__buffer__" = pure (some (.builtin "bytes.__buffer__")) := by rw [typeLookup_type, builtinLookup_eq_fast]; kernel_rfl
theorem lookup_bufferA : typeLookup (.type "bytearray") "__buffer__" = pure (some (.builtin "bytearray.__buffer__")) := by rw [typeLookup_type, builtinLookup_eq_fast]; kernel_rfl
theorem lookup_releaseB : typeLookup (.type "bytes") "__release_buffer__" = pure none := by rw [typeLookup_type, builtinLookup_eq_fast]; kernel_rfl
end BF
section
variable {A : Around} {E : Value → Shared → Prop} {s : Shared} {prog : Program} {w : World} {M : Model}
theorem dneg {p : Prop} {d : Decidable p} {α : Sort _} {a : p → α} {b : ¬p → α} {c : α} (n : ¬p) (h : b n = c) : @dite α p d a b = c := (dif_neg n).trans h
theorem clean_false {v : Value} {c : Code} {p : Pos} (h : dirty c = false) :
    (fun (x : Code × Pos) => match x with
    | (.builtin "bytearray.__contains__" ⟨v' :: _, _⟩, _) | (.builtin "bytearray.__mod__" ⟨v' :: _, _⟩, _)
    | (.builtin "bytearray.__rmod__" ⟨_ :: v' :: _, _⟩, _) | (.builtin "_struct.pack_into.held" ⟨v' :: _, _⟩, _) => Builtin.Bytes.sameRef v' v
    | (.builtin "bytearray.find.held" ⟨_ :: _ :: held, _⟩, _) => held.any (Builtin.Bytes.sameRef v)
    | (.builtin id ⟨v' :: _, _⟩, _) => Builtin.Bytes.sameRef v' v && Builtin.Bytes.decodersThatHold.contains id
    | _ => false) (c, p) = false := by
  cases c with
  | builtin id args =>
    have ne : ∀ i : String, dirtyIds.contains i = true → ¬ id = i := fun i q e => by
      subst e; rw [show dirtyIds.contains id = false from h] at q; cases q
    have z : Builtin.Bytes.decodersThatHold.contains id = false := by
      refine Bool.eq_false_iff.mpr fun q => ne id ?_ rfl
      rw [List.contains_eq_mem, decide_eq_true_iff] at q ⊢
      exact List.mem_append.mpr (.inr q)
    obtain ⟨pos, kw⟩ := args
    delta clean_false.match_1
    refine dneg (ne _ (by decide +kernel)) (dneg (ne _ (by decide +kernel)) (dneg (ne _ (by decide +kernel)) (dneg (ne _ (by decide +kernel)) (dneg (ne _ (by decide +kernel)) ?_))))
    cases pos with
    | nil => rfl
    | cons v' r => exact (congrArg (_ && ·) z).trans (Bool.and_false _)
  | _ => rfl
theorem wpR_exported {v : Value} {Q : Bool → Shared → Prop} (h : Q false s) : wpR M A (Builtin.Bytes.exported v) Q E s := fun Γ p hΓ hd hb => by
  unfold Builtin.Bytes.exported
  show Q (((Γ.code, p) :: Γ.below).any _) s
  rw [List.any_eq_false.mpr ?_]
  · exact h
  · intro x hx
    rw [Bool.not_eq_true]
    rcases List.mem_cons.mp hx with rfl | hx
    · exact clean_false hd
    · exact clean_false (hb x hx)
theorem ba_new {Q₁ : Value → Shared → Prop} (h : Q₁ (.ref s.heap.objs.size) { s with heap := s.heap.push { cls := .type "bytearray", data := .bytearray #[] } }) :
    codeAny (model prog w) A (.call (.builtin "bytearray.__new__") ⟨[.type "bytearray"], []⟩) (wants Q₁ E) s := by
  refine codeAny_of_tree ?_
  show wpAny _ A.in1 (do checkBuiltinCall "bytearray.__new__" ⟨[.type "bytearray"], []⟩; again (.builtin "bytearray.__new__" ⟨[.type "bytearray"], []⟩)) _ _ s
  refine wpAny_bind (wpAny_of_eq BF.newCall0 (wpAny_pure ⟨plainId_quiet BF.plain_new _, codeAny_builtin_stack BF.entry_new rfl fun p st => ?_⟩))
  rw [Around.under_plainId BF.plain_new _]
  have hsub := BF.sub
  have hown := BF.owner_new
  obtain ⟨hp, g, d, tk, os⟩ := s
  simp only [hown]
  wp_walk
  exact h
theorem ba_release {a : Addr} {o : Obj} {Q : Bool → Shared → Prop} (ho : s.heap.get? a = some o) (hc : o.cls = .type "bytearray") (h : Q false s) : wpAny M A (Builtin.Bytes.ownRelease (.ref a)) Q E s := by
  have hT : s.TypeIs (.ref a) "bytearray" := ⟨o, ho, hc⟩
  unfold Builtin.Bytes.ownRelease Builtin.Bytes.slotIsOwn
  refine wpAny_bind (wpAny_bind (wpAny_specialOf hT BF.lookup_release ?_))
  have e1 : ("bytearray.__release_buffer__".endsWith ("." ++ "__release_buffer__")) = true := by decide +kernel
  have e2 : "bytearray.__release_buffer__".dropRight ("__release_buffer__".length + 1) = "bytearray" := by decide +kernel
  show wpAny M A (if (!("bytearray.__release_buffer__".endsWith ("." ++ "__release_buffer__"))) = true then pure false else isInstance (.ref a) (.type ("bytearray.__release_buffer__".dropRight ("__release_buffer__".length + 1)))) _ E s
  rw [e1, e2]
  rw [if_neg (by decide)]
  refine wpAny_isInstance hT BF.sub ?_
  exact wpAny_pure h
theorem ba_noExp {a : Addr} {b : Array UInt8} {o : Obj} {Q : Bool → Shared → Prop} (ho : s.heap.get? a = some o) (hd : o.data = .bytearray b 0) (h : Q false s) : wpR M A (Builtin.Bytes.exported (.ref a) <||> (Builtin.Bytes.exportsOf (.ref a) >>= fun n => pure (decide (n > 0)))) Q E s := by
  show wpR M A (Builtin.Bytes.exported (.ref a) >>= fun b => match toBool b with | true => pure b | false => (Builtin.Bytes.exportsOf (.ref a) >>= fun n => pure (decide (n > 0)))) Q E s
  refine wpR_bind (wpR_exported ?_)
  show wpR M A (Builtin.Bytes.exportsOf (.ref a) >>= fun n => pure (decide (n > 0))) Q E s
  refine wpR.of (wpAny_bind ?_)
  unfold Builtin.Bytes.exportsOf
  refine wpAny_bind (wpAny_load ho ?_)
  rw [hd]
  exact wpAny_pure (wpAny_pure h)
theorem ba_write {a : Addr} {b : Array UInt8} {n : Nat} {f : Array UInt8 → Array UInt8} {o : Obj} {Q : Unit → Shared → Prop} (ho : s.heap.get? a = some o) (hd : o.data = .bytearray b n) (hz : (f b).size ≤ sizeLine)
    (h : Q () { s with heap := s.heap.update a (Obj.mapBytearray f) }) : wpAny M A (Builtin.Bytes.write (.ref a) f) Q E s := by
  show wpAny M A (updateBytearray a f) Q E s
  unfold updateBytearray
  refine wpAny_bind (wpAny_load ho ?_)
  rw [hd]
  refine wpAny_bind (wpAny_update ho ?_)
  obtain ⟨oc, od, odd, osl⟩ := o
  dsimp only at hd
  subst hd
  refine wpAny_lookBehind (Heap.get?_update_self _ ho rfl) ?_ h
  show (if (f b).size > sizeLine then some "bytearray:memory" else none) = none
  rw [if_neg (Nat.not_lt.mpr hz)]
theorem ba_init {a : Addr} {Q : Fin → Shared → Prop} (ho : s.heap.get? a = some { cls := .type "bytearray", data := .bytearray #[] })
    (h : ∀ h', h'.get? a = some { cls := .type "bytearray", data := .bytearray #[] } → (∀ b o, b ≠ a → s.heap.get? b = some o → h'.get? b = some o) → Q (.done (.ret .none)) { s with heap := h' }) :
    wpR (model prog w) A (Builtin.«bytearray.__init__» ⟨[.ref a], []⟩) Q E s := by
  unfold Builtin.«bytearray.__init__»
  dsimp only
  refine wpR_bindA (ba_release ho rfl ?_)
  rw [if_neg (by decide)]
  refine wpR_bindA (wpAny_of_eq BF.bind0 ?_)
  dsimp only
  refine wpR_bindA (wpAny_pure (wpR_bindA (wpAny_pure ?_)))
  refine wpR_bind (ba_noExp ho rfl ?_)
  rw [if_neg (by decide)]
  refine wpR_bindA (ba_write ho rfl (Nat.zero_le _) ?_)
  rw [if_neg (by decide), if_neg (by decide)]
  refine wpR_bindA (wpAny_pure (wpR_pure ?_))
  exact h _ (Heap.get?_update_self _ ho rfl) fun b o n e => (Heap.get?_update_other _ _ (Ne.symm n)).trans e
theorem codeR_builtin {id : String} {args : Args} {b : Builtin} {R : Result → Shared → Prop} (hb : entryFor table id = some b) (hd : dirtyIds.contains id = false)
    (h : wpR (model prog w) (A.under (.builtin id args)) (b args) (fun fin s' => match fin with | .done f => R (.ok f) s' | .again c' => c'.quiet = true ∧ codeR (model prog w) A c' R s') (fun e s' => R (.error e) s') s) :
    codeR (model prog w) A (.builtin id args) R s := by
  refine codeR_of_tree hd ?_
  show wpR _ _ (match entryFor table id with | some b => b args | none => unsupported ((withoutEnding? id "#data").getD id)) _ _ s
  rw [hb]; exact h
theorem ba_call {Q : Value → Shared → Prop}
    (h : ∀ h', h'.get? s.heap.objs.size = some { cls := .type "bytearray", data := .bytearray #[] } → (∀ b o, s.heap.get? b = some o → h'.get? b = some o) → Q (.ref s.heap.objs.size) { s with heap := h' }) :
    wpR (model prog w) A (call (.type "bytearray") []) Q E s := by
  have ft := BF.called
  have hmade := ft.made
  refine wpR_call (codeR_of_tree rfl ?_)
  show wpR _ _ (callAny (.type "bytearray") _) _ _ _
  refine wpR_pure ⟨Code.quiet_builtin _ (by decide +kernel), codeR_builtin F.entry_type_call (by decide +kernel) ?_⟩
  rw [Around.under_plain (weight_type_call_type "bytearray" [] []) rfl]
  have h2 := ft.canCreate
  unfold Builtin.«type.__call__»
  dsimp only
  rw [if_neg (show ¬ ((Value.type "bytearray" == Value.type "type") = true) by decide)]
  rw [if_neg (show ¬ (((Manifest.find? "bytearray").bind (·.mro.findSome? fun t => (Manifest.find? t).bind fun b => if b.noNew then some true else if b.attrs.any (·.1 == "__new__") then some false else none)).getD false = true) by rw [h2]; decide)]
  refine wpR_bindA (wpAny_of_eq BF.typeCall0 ?_)
  refine wpR_bindA (wpAny_of_eq BF.mro ?_)
  rw [if_neg (by decide)]
  refine wpR_bindA (wpAny_of_eq hmade ?_)
  dsimp only
  refine wpR_bindA (wpAny_pure ?_)
  refine wpR_bindA (wpAny_holding (wpAny_call (codeAny_mono (ba_new (Q₁ := fun v s1 => v = .ref s.heap.objs.size ∧ s1 = { s with heap := s.heap.push { cls := .type "bytearray", data := .bytearray #[] } }) (E := fun _ _ => False) ⟨rfl, rfl⟩) fun r s1 hr => ?_)))
  rcases r with e | (v | _ | _ | _) <;> first | exact hr.elim | skip
  obtain ⟨rfl, rfl⟩ := hr
  have ho : (s.heap.push { cls := .type "bytearray", data := .bytearray #[] }).get? s.heap.objs.size = some { cls := .type "bytearray", data := .bytearray #[] } := Heap.get?_push_size _ rfl
  have hT : ({ s with heap := s.heap.push { cls := .type "bytearray", data := .bytearray #[] } } : Shared).TypeIs (.ref s.heap.objs.size) "bytearray" := ⟨_, ho, rfl⟩
  refine wpR_bindA (wpAny_isInstance hT BF.sub ?_)
  rw [if_neg (by decide)]
  refine wpR_bind (wpR_holding ?_)
  unfold callSpecial?
  refine wpR_bindA (wpAny_specialOf hT BF.slot_init.lookup ?_)
  dsimp only
  refine wpR_holding (wpR_bindA (wpAny_of_eq (BF.slot_init.bind _) ?_))
  dsimp only
  refine wpR_bind (wpR_call (codeR_call_builtin_at (plainId_quiet BF.plain_init _) BF.entry_init (by decide +kernel) (BF.slot_init.check _ _ _ _ _ _ _ _ hT (BF.args_init0 _) ?_)))
  refine ba_init ho fun h' hx hk => ?_
  refine wpR_pure ?_
  dsimp only
  rw [if_neg (by decide)]
  exact wpR_pure (h h' hx fun b o e => hk b o (Nat.ne_of_lt (Heap.lt_size e)) (Heap.get?_push_of_some _ e))
end
end Mine
end F_Abs34
section F_Abs35
open PySem PySem.W PySem.Spec PySem.Calls
namespace Mine
section
variable {A : Around} {E : Value → Shared → Prop} {s : Shared} {prog : Program} {w : World} {M : Model}
theorem bf_sub : isSubtype (.type "bytes") (.type "bytes") = pure true := by rw [isSubtype_type]; kernel_rfl
theorem b_own {x : Array UInt8} {t : Tok} {Q : Bool → Shared → Prop} (h : Q true s) : wpAny M A (Builtin.Bytes.slotIsOwn (.bytes x t) "__buffer__") Q E s := by
  have hT : s.TypeIs (.bytes x t) "bytes" := typeIs_bytes _ _ _
  unfold Builtin.Bytes.slotIsOwn
  refine wpAny_bind (wpAny_specialOf hT BF.lookup_buffer ?_)
  have e1 : ("bytes.__buffer__".endsWith ("." ++ "__buffer__")) = true := by decide +kernel
  have e2 : "bytes.__buffer__".dropRight ("__buffer__".length + 1) = "bytes" := by decide +kernel
  show wpAny M A (if (!("bytes.__buffer__".endsWith ("." ++ "__buffer__"))) = true then pure false else isInstance (.bytes x t) (.type ("bytes.__buffer__".dropRight ("__buffer__".length + 1)))) _ E s
  rw [e1, e2]
  rw [if_neg (by decide)]
  exact wpAny_isInstance hT bf_sub h
theorem b_buffer {id : String} {x : Array UInt8} {t : Tok} {full : Bool} {Q : Option (Array UInt8) → Shared → Prop} (h : Q (some x) s) : wpAny M A (Builtin.Bytes.buffer? id (.bytes x t) full) Q E s := by
  have hT : s.TypeIs (.bytes x t) "bytes" := typeIs_bytes _ _ _
  unfold Builtin.Bytes.buffer?
  refine wpAny_bind (wpAny_specialOf hT BF.lookup_buffer ?_)
  dsimp only
  refine wpAny_bind (b_own ?_)
  rw [if_neg (by decide)]
  refine wpAny_bind (wpAny_specialOf hT BF.lookup_buffer ?_)
  try dsimp only
  refine wpAny_bind ?_
  unfold Builtin.Bytes.ownRelease Builtin.Bytes.slotIsOwn
  refine wpAny_bind (wpAny_bind (wpAny_specialOf hT BF.lookup_releaseB (wpAny_pure (wpAny_pure ?_))))
  rw [if_neg (by decide)]
  exact wpAny_bind (wpAny_bind (wpAny_pure (wpAny_pure (wpAny_pure h))))
theorem b_take {id : String} {x : Array UInt8} {t : Tok} {Q : Option (Array UInt8 × Option Value) → Shared → Prop} (h : Q (some (x, none)) s) : wpAny M A (Builtin.Bytes.takeBufferQuiet? id (.bytes x t) 0) Q E s := by
  have hT : s.TypeIs (.bytes x t) "bytes" := typeIs_bytes _ _ _
  unfold Builtin.Bytes.takeBufferQuiet?
  refine wpAny_bind (wpAny_attempt ?_)
  unfold Builtin.Bytes.takeBuffer?
  refine wpAny_bind (wpAny_specialOf hT BF.lookup_buffer ?_)
  dsimp only
  refine wpAny_bind (b_own ?_)
  rw [if_neg (by decide)]
  refine wpAny_bind (wpAny_specialOf hT BF.lookup_buffer ?_)
  try dsimp only
  exact wpAny_bind (b_buffer (wpAny_pure (wpAny_pure h)))
theorem ba_extend {a : Addr} {b x : Array UInt8} {t : Tok} {o : Obj} {Q : Value → Shared → Prop} (ho : s.heap.get? a = some o) (hc : o.cls = .type "bytearray") (hd : o.data = .bytearray b 0) (hz : (b ++ x).size ≤ sizeLine)
    (h : ∀ h', h'.get? a = some (Obj.mapBytearray (· ++ x) o) → (∀ b o, b ≠ a → s.heap.get? b = some o → h'.get? b = some o) → Q .none { s with heap := h' }) :
    wpR (model prog w) A (call (.builtin "bytearray.extend") [.ref a, .bytes x t]) Q E s := by
  have hT : s.TypeIs (.ref a) "bytearray" := ⟨o, ho, hc⟩
  have hX : s.TypeIs (.bytes x t) "bytes" := typeIs_bytes _ _ _
  refine wpR_call (codeR_call_builtin_at (plainId_quiet BF.plain_extend _) BF.entry_extend (by decide +kernel) (BF.slot_extend.check _ _ _ _ _ _ _ _ hT (BF.args_extend _ _) ?_))
  unfold Builtin.«bytearray.extend»
  refine wpR_bindA (wpAny_of_eq (a := (.ref a, .bytes x t)) (by kernel_rfl) ?_)
  dsimp only
  refine wpR_bindA (wpAny_specialOf hX BF.lookup_buffer ?_)
  rw [if_pos (by rfl)]
  refine wpR_bindA (wpAny_rule ?_)
  have hp : ∀ {Q' : Array UInt8 → Shared → Prop} {A' : Around} {E' : Value → Shared → Prop}, Q' b s → wpAny (model prog w) A' (Builtin.Bytes.payload (.ref a)) Q' E' s := fun q => by
    unfold Builtin.Bytes.payload Builtin.Bytes.payload?
    refine wpAny_bind (wpAny_bind (wpAny_load ho ?_))
    rw [hd]
    exact wpAny_pure (wpAny_pure q)
  refine wpR_bindA (hp ?_)
  try dsimp only
  refine wpR_bindA (b_take ?_)
  dsimp only
  rw [if_pos (by rfl)]
  have hw : wpR (model prog w) (A.under (.builtin "bytearray.extend" ⟨[.ref a, .bytes x t], []⟩)) (Builtin.Bytes.write (.ref a) (· ++ x) >>= fun _ => ret .none) (fun fin s' => match fin with | .done f => (match (.ok f : Result) with | .ok (.ret v) => Q v s' | .ok _ => False | .error e => E e s') | .again c' => c'.quiet = true ∧ codeR (model prog w) A c' (fun r s' => match r with | .ok (.ret v) => Q v s' | .ok _ => False | .error e => E e s') s') (fun e s' => E e s') s := by
    refine wpR_bindA (ba_write ho hd hz (wpR_pure ?_))
    exact h _ (Heap.get?_update_self _ ho (by obtain ⟨oc, od, odd, osl⟩ := o; dsimp only at hd; subst hd; rfl)) fun b o n e => (Heap.get?_update_other _ _ (Ne.symm n)).trans e
  show wpR _ _ (if (!x.isEmpty) = true then (Builtin.Bytes.checkResize (.ref a) >>= fun _ => (Builtin.Bytes.write (.ref a) (· ++ x) >>= fun _ => ret .none)) else (Builtin.Bytes.write (.ref a) (· ++ x) >>= fun _ => ret .none)) _ _ _
  split
  · refine wpR_bind ?_
    unfold Builtin.Bytes.checkResize
    refine wpR_bind (ba_noExp ho hd ?_)
    rw [if_neg (by decide)]
    exact wpR_pure hw
  · exact hw
end
end Mine
end F_Abs35
section F_Abs36
open PySem PySem.W PySem.Spec PySem.Calls
namespace Mine
namespace BF
theorem no_bytesA : typeLookup (.type "bytearray") "__bytes__" = pure none := by rw [typeLookup_type, builtinLookup_eq_fast]; kernel_rfl
theorem no_indexA : typeLookup (.type "bytearray") "__index__" = pure none := by rw [typeLookup_type, builtinLookup_eq_fast]; kernel_rfl
theorem bytesB : typeLookup (.type "bytes") "__bytes__" = pure (some (.builtin "bytes.__bytes__")) := by rw [typeLookup_type, builtinLookup_eq_fast]; kernel_rfl
theorem no_bytesI : typeLookup (.type "int") "__bytes__" = pure none := by rw [typeLookup_type, builtinLookup_eq_fast]; kernel_rfl
theorem indexI : typeLookup (.type "int") "__index__" = pure (some (.builtin "int.__index__")) := by rw [typeLookup_type, builtinLookup_eq_fast]; kernel_rfl
end BF
section
variable {A : Around} {E : Value → Shared → Prop} {s : Shared} {prog : Program} {w : World} {M : Model}
theorem bytes_new {v : Value} {Q : Value → Shared → Prop} (hnew : wpAny (model prog w) A.in1.in1 (Builtin.«bytes.__new__» ⟨[.type "bytes", v], []⟩) (fun fin s' => ∃ x t, fin = .done (.ret (.bytes x t)) ∧ Q (.bytes x t) s') (fun e s' => E e s') s) :
    wpAny (model prog w) A (call (.type "bytes") [v]) Q E s := by
  refine callType_codes (Q₁ := fun obj s₁ => s₁.TypeIs obj "bytes" ∧ Q obj s₁) F.bm_called (F.bm_typeCall _) F.entry_object_init ?_ fun obj s₁ h₁ => ?_
  · refine codeAny_of_tree ?_
    show wpAny _ A.in1.in1 (do checkBuiltinCall "bytes.__new__" ⟨[.type "bytes", v], []⟩; again (.builtin "bytes.__new__" ⟨[.type "bytes", v], []⟩)) _ _ s
    refine wpAny_bind (wpAny_of_eq (F.bm_newCall _) (wpAny_pure ⟨plainId_quiet F.bm_plain _, codeAny_builtin F.bm_entry ?_⟩))
    rw [Around.under_plainId F.bm_plain _]
    refine wpAny_mono hnew (fun fin s' p => ?_) fun _ _ p => p
    obtain ⟨x, t, rfl, q⟩ := p
    exact ⟨typeIs_bytes _ _ _, q⟩
  · exact ⟨h₁.1, F.args_object_init_2 obj _, object_init_meets F.bm_called.init.lookup F.bm_called.made (by decide) prog w A.in1 _ s₁ ⟨h₁.1, rfl, h₁.2⟩⟩
theorem ba_buffer {id : String} {a : Addr} {b : Array UInt8} {n : Nat} {o : Obj} {full : Bool} {Q : Option (Array UInt8) → Shared → Prop} (ho : s.heap.get? a = some o) (hc : o.cls = .type "bytearray") (hd : o.data = .bytearray b n) (h : Q (some b) s) : wpAny M A (Builtin.Bytes.buffer? id (.ref a) full) Q E s := by
  have hT : s.TypeIs (.ref a) "bytearray" := ⟨o, ho, hc⟩
  unfold Builtin.Bytes.buffer?
  refine wpAny_bind (wpAny_specialOf hT BF.lookup_bufferA ?_)
  dsimp only
  refine wpAny_bind ?_
  unfold Builtin.Bytes.slotIsOwn
  refine wpAny_bind (wpAny_specialOf hT BF.lookup_bufferA ?_)
  have e1 : ("bytearray.__buffer__".endsWith ("." ++ "__buffer__")) = true := by decide +kernel
  have e2 : "bytearray.__buffer__".dropRight ("__buffer__".length + 1) = "bytearray" := by decide +kernel
  show wpAny M A (if (!("bytearray.__buffer__".endsWith ("." ++ "__buffer__"))) = true then pure false else isInstance (.ref a) (.type ("bytearray.__buffer__".dropRight ("__buffer__".length + 1)))) _ E s
  rw [e1, e2]
  rw [if_neg (by decide)]
  refine wpAny_isInstance hT BF.sub ?_
  rw [if_neg (by decide)]
  refine wpAny_bind (wpAny_specialOf hT BF.lookup_bufferA ?_)
  try dsimp only
  refine wpAny_bind (ba_release ho hc ?_)
  rw [if_neg (by decide)]
  refine wpAny_bind ?_
  unfold Builtin.Bytes.payload Builtin.Bytes.payload?
  refine wpAny_bind (wpAny_bind (wpAny_load ho ?_))
  rw [hd]
  exact wpAny_pure (wpAny_pure (wpAny_pure h))
theorem mkBytes_ok {b : Array UInt8} {Q : Value → Shared → Prop} (hz : b.size ≤ sizeLine) (h : ∀ t k, Q (.bytes b t) { s with toks := k }) : wpAny M A (mkBytes b) Q E s := by
  unfold mkBytes
  rw [if_neg (Nat.not_lt.mpr hz)]
  exact wpAny_bind (wpAny_fresh (wpAny_pure (h _ _)))
theorem ty_bytes : isType (.type "bytes") = pure true := rfl
theorem bytes_barr {a : Addr} {b : Array UInt8} {n : Nat} {o : Obj} {Q : Value → Shared → Prop} (ho : s.heap.get? a = some o) (hc : o.cls = .type "bytearray") (hd : o.data = .bytearray b n) (hz : b.size ≤ sizeLine)
    (h : ∀ t k, Q (.bytes b t) { s with toks := k }) : wpAny (model prog w) A (call (.type "bytes") [.ref a]) Q E s := by
  have hT : s.TypeIs (.ref a) "bytearray" := ⟨o, ho, hc⟩
  refine bytes_new ?_
  unfold Builtin.«bytes.__new__»
  refine wpAny_bind (wpAny_of_eq (a := true) rfl ?_)
  refine bm_if_false rfl ?_
  refine wpAny_bind (wpAny_of_eq F.bm_sub ?_)
  refine bm_if_false rfl ?_
  refine wpAny_bind (wpAny_of_eq (F.bm_bind _) ?_)
  refine wpAny_bind (wpAny_of_eq (a := ()) rfl ?_)
  refine wpAny_bind (wpAny_of_eq (a := ()) rfl ?_)
  refine bm_if_false rfl ?_
  refine wpAny_bind (wpAny_specialOf hT BF.no_bytesA ?_)
  refine wpAny_bind (wpAny_bind ?_)
  show wpAny _ _ (load a >>= _) _ _ _
  refine wpAny_bind (wpAny_load ho ?_)
  rw [hd]
  refine wpAny_pure (wpAny_pure ?_)
  refine bm_if_false rfl ?_
  refine wpAny_bind (wpAny_specialOf hT BF.no_indexA ?_)
  refine bm_if_true rfl ?_
  show wpAny _ _ (Builtin.Bytes.buffer? "bytes.__new__" (.ref a) true >>= _) _ _ _
  refine wpAny_bind (ba_buffer ho hc hd ?_)
  dsimp only
  refine wpAny_bind (wpAny_rule ?_)
  refine wpAny_bind (mkBytes_ok hz fun t k => ?_)
  show wpAny _ _ (if (Value.type "bytes" == Value.type "bytes") = true then _ else _) _ _ _
  refine bm_if_true rfl ?_
  exact wpAny_pure ⟨_, _, rfl, h _ _⟩
theorem bytes_bytes {x : Array UInt8} {t : Tok} {Q : Value → Shared → Prop} (h : Q (.bytes x t) s) : wpAny (model prog w) A (call (.type "bytes") [.bytes x t]) Q E s := by
  have hT : s.TypeIs (.bytes x t) "bytes" := typeIs_bytes _ _ _
  refine bytes_new ?_
  unfold Builtin.«bytes.__new__»
  refine wpAny_bind (wpAny_of_eq (a := true) rfl ?_)
  refine bm_if_false rfl ?_
  refine wpAny_bind (wpAny_of_eq F.bm_sub ?_)
  refine bm_if_false rfl ?_
  refine wpAny_bind (wpAny_of_eq (F.bm_bind _) ?_)
  refine wpAny_bind (wpAny_of_eq (a := ()) rfl ?_)
  refine wpAny_bind (wpAny_of_eq (a := ()) rfl ?_)
  refine bm_if_false rfl ?_
  refine wpAny_bind (wpAny_specialOf hT BF.bytesB ?_)
  try dsimp only
  refine wpAny_bind (wpAny_rule ?_)
  refine wpAny_bind (wpAny_of_eq (a := .type "bytes") rfl ?_)
  refine bm_if_true rfl ?_
  show wpAny _ _ (if (Value.type "bytes" == Value.type "bytes") = true then _ else _) _ _ _
  refine bm_if_true rfl ?_
  exact wpAny_pure ⟨_, _, rfl, h⟩
theorem bytes_int {k : Int} {t : Tok} {Q : Value → Shared → Prop} (h0 : 0 ≤ k) (h1 : k ≤ 100000) (h : ∀ t k', Q (.bytes (Array.replicate k.toNat 0) t) { s with toks := k' }) : wpAny (model prog w) A (call (.type "bytes") [.int k t]) Q E s := by
  have hT : s.TypeIs (.int k t) "int" := typeIs_int _ _ _
  refine bytes_new ?_
  unfold Builtin.«bytes.__new__»
  refine wpAny_bind (wpAny_of_eq ty_bytes ?_)
  refine bm_if_false rfl ?_
  refine wpAny_bind (wpAny_of_eq F.bm_sub ?_)
  refine bm_if_false rfl ?_
  refine wpAny_bind (wpAny_of_eq (F.bm_bind _) ?_)
  refine wpAny_bind (wpAny_pure ?_)
  refine wpAny_bind (wpAny_pure ?_)
  refine bm_if_false rfl ?_
  refine wpAny_bind (wpAny_specialOf hT BF.no_bytesI ?_)
  dsimp only
  refine wpAny_bind (wpAny_bind (m := asStr? (.int k t)) (wpAny_pure (wpAny_pure ?_)))
  refine bm_if_false rfl ?_
  refine wpAny_bind (wpAny_specialOf hT BF.indexI ?_)
  refine bm_if_false rfl ?_
  refine wpAny_bind (wpAny_attempt ?_)
  unfold asIndex
  refine wpAny_bind (m := asInt? (.int k t)) (wpAny_pure ?_)
  dsimp only
  refine wpAny_pure ?_
  try dsimp only
  have f1 : Builtin.Bytes.fitsIndex k = true := by
    unfold Builtin.Bytes.fitsIndex
    rw [Bool.and_eq_true, decide_eq_true_iff, decide_eq_true_iff]
    exact ⟨by omega, by omega⟩
  refine bm_if_false (by rw [f1]; rfl) ?_
  rw [if_neg (by omega), if_neg (by omega)]
  refine bm_if_false (by unfold Builtin.Bytes.tooLong; rw [decide_eq_false_iff_not, sizeLine_eq]; omega) ?_
  refine wpAny_bind (wpAny_rule ?_)
  refine wpAny_bind (mkBytes_ok (by rw [Array.size_replicate, sizeLine_eq]; omega) fun t k => ?_)
  show wpAny _ _ (if (Value.type "bytes" == Value.type "bytes") = true then _ else _) _ _ _
  refine bm_if_true rfl ?_
  exact wpAny_pure ⟨_, _, rfl, h _ _⟩
end
end Mine
end F_Abs36
section F_Abs37
open PySem PySem.W PySem.Spec PySem.Calls PyProof.Rows
namespace Mine
theorem plainAttrs_bytearray : PlainAttrs "bytearray" :=
  ⟨⟨"bytearray.__getattribute__", by rw [typeLookup_type, builtinLookup_eq_fast]; kernel_rfl, by decide +kernel⟩, by rw [typeLookup_type, builtinLookup_eq_fast]; kernel_rfl⟩
theorem type_ba_extend : typeOf (.builtin "bytearray.extend") = pure (.type "method_descriptor") := by show builtinType _ = _; rw [builtinType_eq_fast]; kernel_rfl
noncomputable def fBytes : FP := fun ds σ Q E => match ds with
  | [.ref a] => (match σ a with | some (.barr b) => b.size ≤ 100000 ∧ Q (.bytes b) σ | _ => fBytesInts [.ref a] σ Q E)
  | [.bytes b] => Q (.bytes b) σ
  | [.int k] => 0 ≤ k ∧ k ≤ 100000 ∧ Q (.bytes (Array.replicate k.toNat 0)) σ
  | _ => False
noncomputable def fBarr : FP := fun ds σ Q E => match ds with
  | [] => ∀ a, σ a = none → Q (.ref a) (σ.put a (.barr #[]))
  | _ => False
noncomputable def fExtend : FP := fun ds σ Q E => match ds with
  | [.ref a, .bytes x] => ∃ b, σ a = some (.barr b) ∧ b.size + x.size ≤ 100000 ∧ Q .none (σ.put a (.barr (b ++ x)))
  | _ => False
section
variable {n : Nat}
theorem SndF.bytes : SndF n (.type "bytes") fBytes := fun nk c X ℓ σ s Q E vs ds fm dy rs hp => by
  obtain ⟨d, rfl⟩ := oneD (M := fun ds => fBytes ds σ Q E) hp (fun h => h) fun a b r h => by cases a <;> exact h
  obtain ⟨v, _, rfl, rv, r⟩ := rs.cons_inv; cases r.nil_inv
  cases d with
  | ref a =>
    have alt : fBytesInts [.ref a] σ Q E → _ := SndF.bytesInts (n := n) nk c X ℓ σ s Q E _ _ fm dy rs
    cases rv.ref_inv
    dsimp only [fBytes] at hp
    cases ha : σ a with
    | none => rw [ha] at hp; exact alt hp
    | some o =>
    rw [ha] at hp
    cases o with
    | barr b =>
      obtain ⟨o, g1, g2, g3, g4⟩ := dy.rep _ _ ha
      exact bytes_barr g1 g2 g3 (le_size hp.1) fun t k => PE.mk (.bytes _ _) dy .refl hp.2
    | _ => exact alt hp
  | bytes b =>
    obtain ⟨t, rfl⟩ := rv.bytes_inv
    exact bytes_bytes (PE.mk (tk' := s.toks) (.bytes _ _) dy .refl hp)
  | int k =>
    obtain ⟨t, rfl⟩ := rv.int_inv
    exact bytes_int hp.1 hp.2.1 fun t k => PE.mk (.bytes _ _) dy .refl hp.2.2
  | _ => exact hp.elim
theorem SndFR.barr : SndFR n (.type "bytearray") fBarr := fun nk c X ℓ σ s Q E vs ds fm dy rs hp => by
  cases ds with
  | cons => exact hp.elim
  | nil =>
    cases rs.nil_inv
    refine ba_call fun h' hx hk => ?_
    obtain ⟨dy1, kp1, t1⟩ := dy.add (o := .barr #[]) hk dy.newA fun _ => ⟨_, hx, rfl, rfl, rfl⟩
    exact PE.mk (tk' := s.toks) (.ref _) dy1 kp1 (hp _ (dy.fresh dy.newA))
theorem SndFR.extend : SndFR n (.builtin "bytearray.extend") fExtend := fun nk c X ℓ σ s Q E vs ds fm dy rs hp => by
  obtain ⟨d, e, rfl⟩ := twoD (M := fun ds => fExtend ds σ Q E) hp (fun h => h) (fun a h => by cases a <;> exact h) fun a b c r h => by cases a <;> first | exact h | (cases b <;> exact h)
  cases d with
  | ref a => cases e with
    | bytes x =>
      obtain ⟨v, _, rfl, rv, r⟩ := rs.cons_inv
      obtain ⟨v2, _, rfl, rv2, r2⟩ := r.cons_inv; cases r2.nil_inv
      cases rv.ref_inv
      obtain ⟨t, rfl⟩ := rv2.bytes_inv
      obtain ⟨b, ha, hz, hq⟩ := hp
      obtain ⟨o, g1, g2, g3, g4⟩ := dy.rep _ _ ha
      refine ba_extend g1 g2 g3 (le_size (by rw [Array.size_append]; exact hz)) fun h' hx hk => ?_
      obtain ⟨dy1, kp1, t1⟩ := dy.upd ha hk (o' := .barr (b ++ _)) fun _ => ⟨_, hx, by obtain ⟨oc, od, odd, osl⟩ := o; dsimp only at g3; subst g3; exact g2, by obtain ⟨oc, od, odd, osl⟩ := o; dsimp only at g3; subst g3; rfl, by obtain ⟨oc, od, odd, osl⟩ := o; dsimp only at g3; subst g3; exact g4⟩
      exact PE.mk (tk' := s.toks) .none dy1 kp1 hq
    | _ => exact hp.elim
  | _ => exact hp.elim
end
end Mine
end F_Abs37
section F_Abs38
open PySem PySem.W PySem.Spec PySem.Calls
namespace Mine
namespace BF
theorem slot_join : Slot "bytes" "join" "bytes.join" :=
  .of (owner := "bytes") (n := "join") (by rw [typeLookup_type, builtinLookup_eq_fast]; kernel_rfl) (by decide +kernel) (by decide +kernel) (by decide +kernel)
    (by first | exact .inl (by decide +kernel) | exact .inr (by decide +kernel)) (by rw [isSubtype_type]; kernel_rfl)
theorem entry_join : entryFor table "bytes.join" = some Builtin.«bytes.join» := entryFor_of_tree (by kernel_rfl)
theorem args_join (a b : Value) : argsOk "bytes.join" ⟨[a, b], []⟩ := by unfold argsOk; kernel_rfl
theorem type_join : typeOf (.builtin "bytes.join") = pure (.type "method_descriptor") := by show builtinType _ = _; rw [builtinType_eq_fast]; kernel_rfl
end BF
section
variable {A : Around} {E : Value → Shared → Prop} {s : Shared} {prog : Program} {w : World} {M : Model}
theorem joinLetGo_ok {keep : List Value} {Q : Unit → Shared → Prop} (h : Q () s) : ∀ {l : List (Value × Option Value)}, (∀ x ∈ l, x.2 = none) → wpAny M A (Builtin.Bytes.joinLetGo l keep) Q E s
  | [], _ => wpAny_pure h
  | (x, w) :: rest, hw => by
    obtain rfl : w = none := hw (x, w) (.head _)
    show wpAny M A (PySem.letGo [x] _ >>= fun _ => Builtin.Bytes.joinLetGo rest keep) Q E s
    exact wpAny_bind (wpAny_letGo (joinLetGo_ok h fun y hy => hw y (.tail _ hy)))
theorem join4 {l : Addr} {o : Obj} {n : Nat} {x1 x2 x3 x4 : Array UInt8} {t t1 t2 t3 t4 : Tok} {Q : Value → Shared → Prop} (ho : s.heap.get? l = some o) (hc : o.cls = .type "list") (hd : o.data = .seq #[.bytes x1 t1, .bytes x2 t2, .bytes x3 t3, .bytes x4 t4] n)
    (hz : x1.size + x2.size + x3.size + x4.size ≤ 100000) (h : ∀ t k, Q (.bytes (x1 ++ x2 ++ x3 ++ x4) t) { s with toks := k }) :
    wpAny (model prog w) A (call (.builtin "bytes.join") [.bytes #[] t, .ref l]) Q E s := by
  have hT : s.TypeIs (.bytes #[] t) "bytes" := typeIs_bytes _ _ _
  refine wpAny_call_entry BF.slot_join hT BF.entry_join ?_ (BF.args_join _ _)
  show wpAny _ _ (Builtin.Bytes.joinM .bytes ⟨[.bytes #[] t, .ref l], []⟩) _ _ _
  unfold Builtin.Bytes.joinM
  refine wpAny_bind (wpAny_of_eq (a := (.bytes #[] t, .ref l)) (by kernel_rfl) ?_)
  dsimp only
  refine bm_if_true rfl ?_
  refine wpAny_bind ?_
  unfold Builtin.Bytes.joinItems
  refine wpAny_bind (wpAny_typeOf (T := "list") ⟨o, ho, hc⟩ ?_)
  refine bm_if_true rfl ?_
  refine wpAny_pure ?_
  refine wpAny_bind (wpAny_seqItems ho hd ?_)
  dsimp only
  refine bm_if_true rfl ?_
  rw [Std.Legacy.Range.forIn_eq_forIn_range']
  refine wpAny_bind ?_
  have hr : ∀ k : Nat, k = 4 → List.range' [:k].start [:k].size [:k].step = [0, 1, 2, 3] := by intro k e; subst e; decide
  rw [hr _ (by rfl)]
  rw [List.forIn_cons]
  refine wpAny_bind (wpAny_bind (wpAny_seqItems ho hd ?_))
  dsimp only
  refine bm_if_false rfl ?_
  refine wpAny_bind (wpAny_holding (b_take (x := x1) (t := t1) ?_))
  dsimp only
  refine wpAny_bind (wpAny_seqItems ho hd ?_)
  dsimp only
  refine bm_if_false rfl ?_
  refine wpAny_pure ?_
  dsimp only
  rw [List.forIn_cons]
  refine wpAny_bind (wpAny_bind (wpAny_seqItems ho hd ?_))
  dsimp only
  refine bm_if_false rfl ?_
  refine wpAny_bind (wpAny_holding (b_take (x := x2) (t := t2) ?_))
  dsimp only
  refine wpAny_bind (wpAny_seqItems ho hd ?_)
  dsimp only
  refine bm_if_false rfl ?_
  refine wpAny_pure ?_
  dsimp only
  rw [List.forIn_cons]
  refine wpAny_bind (wpAny_bind (wpAny_seqItems ho hd ?_))
  dsimp only
  refine bm_if_false rfl ?_
  refine wpAny_bind (wpAny_holding (b_take (x := x3) (t := t3) ?_))
  dsimp only
  refine wpAny_bind (wpAny_seqItems ho hd ?_)
  dsimp only
  refine bm_if_false rfl ?_
  refine wpAny_pure ?_
  dsimp only
  rw [List.forIn_cons]
  refine wpAny_bind (wpAny_bind (wpAny_seqItems ho hd ?_))
  dsimp only
  refine bm_if_false rfl ?_
  refine wpAny_bind (wpAny_holding (b_take (x := x4) (t := t4) ?_))
  dsimp only
  refine wpAny_bind (wpAny_seqItems ho hd ?_)
  dsimp only
  refine bm_if_false rfl ?_
  refine wpAny_pure ?_
  dsimp only
  rw [List.forIn_nil]
  refine wpAny_pure ?_
  dsimp only
  refine wpAny_bind (m := Builtin.Bytes.payload (.bytes #[] t)) (wpAny_pure ?_)
  refine bm_if_false ?_ ?_
  · unfold Builtin.Bytes.tooLong
    rw [decide_eq_false_iff_not, sizeLine_eq]
    simp
    omega
  have hj : Builtin.Bytes.joined #[] ((((#[].push x1).push x2).push x3).push x4).toList = x1 ++ x2 ++ x3 ++ x4 := by
    simp [Builtin.Bytes.joined]
  rw [hj]
  refine wpAny_bind (mkBytes_ok (by rw [Array.size_append, Array.size_append, Array.size_append, sizeLine_eq]; omega) fun t' k => ?_)
  refine wpAny_bind (wpAny_holding (wpAny_point ?_))
  refine wpAny_bind (joinLetGo_ok ?_ fun x hx => ?_)
  · exact wpAny_pure ⟨_, rfl, h _ _⟩
  · simp only [List.nil_append, List.cons_append, List.mem_cons, List.not_mem_nil, or_false] at hx
    rcases hx with rfl | rfl | rfl | rfl <;> rfl
end
noncomputable def fJoin : FP := fun ds σ Q E => match ds with
  | [.bytes b, .ref l] => ∃ x1 x2 x3 x4, b = #[] ∧ σ l = some (.list [.bytes x1, .bytes x2, .bytes x3, .bytes x4]) ∧ x1.size + x2.size + x3.size + x4.size ≤ 100000 ∧ Q (.bytes (x1 ++ x2 ++ x3 ++ x4)) σ
  | _ => False
theorem SndF.join {n} : SndF n (.builtin "bytes.join") fJoin := fun nk c X ℓ σ s Q E vs ds fm dy rs hp => by
  obtain ⟨d, e, rfl⟩ := twoD (M := fun ds => fJoin ds σ Q E) hp (fun h => h) (fun a h => by cases a <;> exact h) fun a b c r h => by cases a <;> first | exact h | (cases b <;> exact h)
  cases d with
  | bytes b => cases e with
    | ref l =>
      obtain ⟨v, _, rfl, rv, r⟩ := rs.cons_inv
      obtain ⟨v2, _, rfl, rv2, r2⟩ := r.cons_inv; cases r2.nil_inv
      obtain ⟨t, rfl⟩ := rv.bytes_inv
      cases rv2.ref_inv
      obtain ⟨x1, x2, x3, x4, rfl, ha, hz, hq⟩ := hp
      obtain ⟨o, ws, k, g1, g2, g3, g4⟩ := dy.rep _ _ ha
      obtain ⟨v1, l1, e1, q1, g5⟩ := g4.cons_inv
      obtain ⟨v2, l2, rfl, q2, g6⟩ := g5.cons_inv
      obtain ⟨v3, l3, rfl, q3, g7⟩ := g6.cons_inv
      obtain ⟨v4, l4, rfl, q4, g8⟩ := g7.cons_inv
      cases g8.nil_inv
      obtain ⟨t1, rfl⟩ := q1.bytes_inv
      obtain ⟨t2, rfl⟩ := q2.bytes_inv
      obtain ⟨t3, rfl⟩ := q3.bytes_inv
      obtain ⟨t4, rfl⟩ := q4.bytes_inv
      have hw : ws = #[.bytes x1 t1, .bytes x2 t2, .bytes x3 t3, .bytes x4 t4] := by rw [← Array.toArray_toList (xs := ws), e1]
      subst hw
      exact join4 g1 g2 g3 hz fun t k => PE.mk (.bytes _ _) dy .refl hq
    | _ => exact hp.elim
  | _ => exact hp.elim
end Mine
end F_Abs38
section F_Abs39
open PySem PySem.W PySem.Spec PySem.Calls
open Builtin
namespace Mine
section
variable {prog : Program} {w : World} {A : Around} {E : Value → Shared → Prop} {s : Shared} {b : Array UInt8} {t : Tok}
theorem bit_at {h h' : Heap} {a : Addr} {i : Nat} (x : KBw.IsBytesIter h a b t i) (k : ∀ o, h.get? a = some o → h'.get? a = some o) : KBw.IsBytesIter h' a b t i := let ⟨o, e, r⟩ := x; ⟨o, k o e, r⟩
theorem nextOf_bytes {it : Addr} {i : Nat} {c : UInt8} {Q : Value → Shared → Prop} (hit : KBw.IsBytesIter s.heap it b t i) (hx : b[i]? = some c)
    (hQ : ∀ h', KBw.IsBytesIter h' it b t (i + 1) → Heap.SameBut it s.heap h' → Q (.int (c.toNat : Int) s.toks) { s with heap := h', toks := s.toks + 1 }) : wpAny (model prog w) A (Builtin.SmallTypes.nextOf (.ref it)) Q E s := by
  obtain ⟨o, ho, hc, hd⟩ := id hit
  unfold Builtin.SmallTypes.nextOf
  refine wpAny_bind (wpAny_callSpecial?_slot (name := PySem.Str.ofString "__next__") (KBw.iter_typeIs hit) KBw.slot_next
    (wpAny_call_entry KBw.slot_next (KBw.iter_typeIs hit) KBw.entry_next ?_ (KBw.args_next _)))
  show wpAny _ _ (field (.ref it) 0 >>= _) _ _ s
  refine wpAny_bind (wpAny_field ho hd (x := .bytes b t) rfl ?_)
  show wpAny _ _ (if (Value.bytes b t == Value.none) = true then _ else _) _ _ s
  rw [if_neg (show ¬ ((Value.bytes b t == Value.none) = true) from Bool.false_ne_true)]
  show wpAny _ _ (field (.ref it) 1 >>= _) _ _ s
  refine wpAny_bind (wpAny_field ho hd (x := .int i 0) rfl ?_)
  refine wpAny_bind (wpAny_of_eq (a := b) rfl ?_)
  simp only [Int.toNat_natCast, hx]
  refine wpAny_bind (wpAny_setField ho hd (by simp) (wpAny_bind (wpAny_mkInt (wpAny_pure ⟨_, rfl, wpAny_pure (hQ _ ?_ (Heap.SameBut.update ..))⟩))))
  exact ⟨_, Heap.get?_update_self _ ho (Obj.isFreed_of_fields (Obj.data_mapFields hd _)), (Obj.cls_mapFields ..).trans hc, by
    rw [Obj.data_mapFields hd]; simp [rawInt]⟩
theorem nextOf_bytes_end {it : Addr} {i : Nat} {Q : Value → Shared → Prop} (hh : A.handled = none) (hit : KBw.IsBytesIter s.heap it b t i) (hx : b[i]? = none)
    (hE : ∀ h' e, Heap.ExtBut it s.heap h' → (∃ o, h'.get? e = some o ∧ o.cls = .type "StopIteration") → E (.ref e) { s with heap := h' }) : wpAny (model prog w) A (Builtin.SmallTypes.nextOf (.ref it)) Q E s := by
  obtain ⟨o, ho, hc, hd⟩ := id hit
  unfold Builtin.SmallTypes.nextOf
  refine wpAny_bind (wpAny_callSpecial?_slot (name := PySem.Str.ofString "__next__") (KBw.iter_typeIs hit) KBw.slot_next
    (wpAny_call_entry KBw.slot_next (KBw.iter_typeIs hit) KBw.entry_next ?_ (KBw.args_next _)))
  show wpAny _ _ (field (.ref it) 0 >>= _) _ _ s
  refine wpAny_bind (wpAny_field ho hd (x := .bytes b t) rfl ?_)
  show wpAny _ _ (if (Value.bytes b t == Value.none) = true then _ else _) _ _ s
  rw [if_neg (show ¬ ((Value.bytes b t == Value.none) = true) from Bool.false_ne_true)]
  show wpAny _ _ (field (.ref it) 1 >>= _) _ _ s
  refine wpAny_bind (wpAny_field ho hd (x := .int i 0) rfl ?_)
  refine wpAny_bind (wpAny_of_eq (a := b) rfl ?_)
  simp only [Int.toNat_natCast, hx]
  refine wpAny_bind (wpAny_rule (wpAny_bind (wpAny_setField ho hd (by simp) ?_)))
  show wpAny _ _ (newExc (.type "StopIteration") [] >>= _) _ _ _
  refine wpAny_bind ?_
  simp only [newExc, newTuple]
  refine wpAny_bind (wpAny_newObj_type ?_ (by size_fits))
  refine wpAny_bind (m := firstArgMember _ _) (wpAny_of_eq (a := Value.none) (by first | rfl | (simp only [firstArgMember]; rfl)) ?_)
  refine wpAny_newObj_type ?_ (by size_fits)
  simp only [raiseNew]
  refine wpAny_bind (wpAny_handled ?_)
  first | rw [show A.in1.handled = none from hh] | rw [hh]
  refine wpAny_bind (wpAny_pure (wpAny_throw ?_))
  exact hE _ _ (((Heap.SameBut.update ..).extBut.push _).push _) ⟨_, Heap.get?_push_size _ rfl, rfl⟩
theorem drawsB (hh : A.handled = none) (it : Addr) (b : Array UInt8) (t : Tok) : Draws prog w A it [it] b.size (fun i v => ∃ c u, b[i]? = some c ∧ v = .int (c.toNat : Int) u) (fun i h => KBw.IsBytesIter h it b t i) where
  live := fun _ _ st => let ⟨o, ho, _⟩ := st; ⟨o, ho⟩
  frame := fun _ _ _ st hk => bit_at st fun o e => hk it (by simp) o e
  item := fun i s Q E hi st hQ => by
    refine nextOf_bytes st (c := b[i]) (by simp [hi]) fun h' hit' hs' => ?_
    exact hQ _ h' (s.toks + 1) ⟨_, _, by simp [hi], rfl⟩ hit' hs'
  done := fun s Q E st hE => nextOf_bytes_end hh st (by simp) hE
set_option tactic.hygienic true in
set_option maxHeartbeats 1000000 in
theorem meets_enum_bytes (b : Array UInt8) (t : Tok) :
    Meets (Builtin.«enumerate.__new__» ⟨[.type "enumerate", .bytes b t], []⟩) (fun _ R s =>
      R (.ok (.ret (.ref (s.heap.push { cls := .type "bytes_iterator", data := .fields #[.bytes b t, .int 0 0] }).objs.size)))
        { s with heap := (s.heap.push { cls := .type "bytes_iterator", data := .fields #[.bytes b t, .int 0 0] }).push { cls := .type "enumerate", data := .fields #[.none, .bool false, .ref s.heap.objs.size, rawInt 0, .none, .none] } }) :=
  .of_wp fun prog w A R s h => by
    obtain ⟨hp, g, d, tk, os⟩ := s
    have hsub := sub_enumerate
    wp_walk
    refine wpAny_stack_any fun st => wpAny_pure ?_
    split
    · rename_i c _ _ _ _ _
      cases (c == Value.type "enumerate")
      · wp_walk using KBw.pyIter_bytes
        exact ⟨_, rfl, h⟩
      · wp_walk using KBw.pyIter_bytes
        exact ⟨_, rfl, h⟩
    · wp_walk using KBw.pyIter_bytes
      exact ⟨_, rfl, h⟩
theorem enum_bytes {Q : Value → Shared → Prop}
    (h : ∀ h', IsEnum h' (s.heap.objs.size + 1) s.heap.objs.size 0 .none → KBw.IsBytesIter h' s.heap.objs.size b t 0 → h'.objs.size = s.heap.objs.size + 2 →
      (∀ b o, s.heap.get? b = some o → h'.get? b = some o) → Q (.ref (s.heap.objs.size + 1)) { s with heap := h' }) :
    wpAny (model prog w) A (call (.type "enumerate") [.bytes b t]) Q E s := by
  refine callType_new F.called_enumerate (by decide) (F.typeCall_enumerate_1 _) (F.newCall_enumerate_1 _) (fun obj => F.args_object_init_2 obj _) F.entry_enumerate_new
    (meets_enum_bytes b t) ?_
  have hz : (s.heap.push { cls := .type "bytes_iterator", data := .fields #[.bytes b t, .int 0 0] }).objs.size = s.heap.objs.size + 1 := Heap.size_push ..
  show _ ∧ _
  rw [hz]
  have he : IsEnum ((s.heap.push { cls := .type "bytes_iterator", data := .fields #[.bytes b t, .int 0 0] }).push
      { cls := .type "enumerate", data := .fields #[.none, .bool false, .ref s.heap.objs.size, rawInt 0, .none, .none] }) (s.heap.objs.size + 1) s.heap.objs.size 0 .none := by
    have := Heap.get?_push_size (s.heap.push { cls := .type "bytes_iterator", data := .fields #[.bytes b t, .int 0 0] })
      (o := { cls := .type "enumerate", data := .fields #[.none, .bool false, .ref s.heap.objs.size, rawInt 0, .none, .none] }) rfl
    rw [hz] at this; exact this
  refine ⟨⟨_, he, rfl⟩, h _ he ⟨_, Heap.get?_push_of_some _ (Heap.get?_push_size _ rfl), rfl, rfl⟩ (by rw [Heap.size_push, hz]) fun b o y => Heap.get?_push_of_some _ (Heap.get?_push_of_some _ y)⟩
end
end Mine
end F_Abs39
section F_Abs40
open PySem PySem.W PySem.Spec PySem.Calls PyProof.Rows
namespace Mine
structure VSrcE (w : World) (A : Around) (I J : Addr) (n : Nat) (tgt : Expr) (P : Nat → Heap → Value → Prop) (it : Nat → Heap → Prop) : Prop where
  item : ∀ (i : Nat) (s : Shared) (Q : Value → Shared → Prop) (E : Value → Shared → Prop), i < n → it i s.heap →
    (∀ v h' tk, P i h' v → it (i + 1) h' → (∀ b o, b ≠ I → b ≠ J → s.heap.get? b = some o → h'.get? b = some o) → Q v { s with heap := h', toks := tk }) →
    wpAny (model prg w) A (pyNext (.ref I)) (fun r s₁ => ∃ v, r = some v ∧ wpAny (model prg w) A (letOwnedTupleGo tgt (.ref I) v) (fun _ s₂ => Q v s₂) E s₁) E s
  done : ∀ (s : Shared) (Q : Option Value → Shared → Prop) (E : Value → Shared → Prop), it n s.heap →
    (∀ h' tk, (∀ b o, b ≠ I → b ≠ J → s.heap.get? b = some o → h'.get? b = some o) → Q none { s with heap := h', toks := tk }) → wpAny (model prg w) A (pyNext (.ref I)) Q E s
  self : ∀ (i : Nat) (s : Shared) (Q : Value → Shared → Prop) (E : Value → Shared → Prop), it i s.heap → Q (.ref I) s → wpAny (model prg w) A (pyIter (.ref I)) Q E s
  at_ : ∀ i h h', it i h → (∀ a, a = I ∨ a = J → ∀ o, h.get? a = some o → h'.get? a = some o) → it i h'
  some_ : ∀ i h, it i h → (∃ o, h.get? I = some o ∧ ∃ vs, o.data = .fields vs) ∧ ∃ o, h.get? J = some o ∧ ∃ vs, o.data = .fields vs
theorem vs_enum {w : World} {A : Around} {e it : Addr} {b : Array UInt8} {t : Tok} {elts : List Expr} {k : Nat} {px : Pos} (hh : A.handled = none) (hne : e ≠ it) :
    VSrcE w A e it b.size (.Tuple elts k px) (fun i h v => ∃ T c u1 u2, v = .ref T ∧ b[i]? = some c ∧ h.IsTuple T #[.int (i : Int) u1, .int (c.toNat : Int) u2]) (fun i h => (∃ old, IsEnum h e it (i : Int) old) ∧ KBw.IsBytesIter h it b t i) where
  item := fun i s Q E hi hst hQ => by
    obtain ⟨⟨old, he⟩, hs⟩ := hst
    refine wpAny_pyNext_enum_itemD (drawsB (prog := prg) (w := w) (A := A.in1) hh it b t) he hs hi hne (fun q => hne (List.mem_singleton.mp q)) fun x h' tk hP ho hs' hT hsz hk => ⟨_, rfl, ?_⟩
    obtain ⟨c, u, hc, rfl⟩ := hP
    have hTe : s.heap.objs.size ≠ e := Nat.ne_of_gt (Heap.lt_size he)
    refine wpAny_letOwnedTupleGo_enum ho fun h2 he2 hs2 => ?_
    refine hQ _ h2 _ ⟨_, c, _, _, rfl, hc, ⟨_, hs2.extBut _ _ hTe hT, rfl, _, rfl⟩⟩ ⟨⟨_, by simpa using he2⟩, bit_at hs' fun o e' => hs2.extBut _ _ (Ne.symm hne) e'⟩ fun a o n1 n2 e' => hs2.extBut _ _ n1 (hk a o n1 n2 e')
  done := fun s Q E hst hQ => by
    obtain ⟨⟨old, he⟩, hs⟩ := hst
    exact wpAny_pyNext_enum_endD (drawsB (prog := prg) (w := w) (A := A.in1) hh it b t) he hs fun h' hk => hQ h' s.toks fun a o n1 n2 e' => hk a o n2 e'
  self := fun i s Q E hst hQ => by
    obtain ⟨⟨old, he⟩, hs⟩ := hst
    exact wpAny_pyIter_enum he hQ
  at_ := fun i h h' hst k => by
    obtain ⟨⟨old, he⟩, hs⟩ := hst
    exact ⟨⟨old, k e (.inl rfl) _ he⟩, bit_at hs fun o e' => k it (.inr rfl) o e'⟩
  some_ := fun i h hst => by
    obtain ⟨⟨old, he⟩, o, ho, hc, hd⟩ := hst
    exact ⟨⟨_, he, _, rfl⟩, o, ho, _, hd⟩
theorem VSrcE.g {w A I J n tgt P it} (S : VSrcE w A I J n tgt P it) : VSrcG w A I [I, J] n tgt P it fun _ => True where
  item := fun i s Q E hi hit _ k => S.item i s Q E hi hit fun v h' tk a b c => k v h' tk a b fun x o n => c x o (fun q => n (q ▸ .head _)) fun q => n (q ▸ .tail _ (.head _))
  done := fun s Q E hit _ k => S.done s Q E hit fun h' tk c => k h' tk fun x o n => c x o (fun q => n (q ▸ .head _)) fun q => n (q ▸ .tail _ (.head _))
  self := S.self
  at_ := fun i h h' hit k => S.at_ i h h' hit fun a ha => k a (ha.elim (fun q => q ▸ .head _) fun q => q ▸ .tail _ (.head _))
  some_ := fun i h hit a ha => (List.mem_cons.mp ha).elim (fun q => q ▸ (S.some_ i h hit).1) fun q => List.mem_singleton.mp q ▸ (S.some_ i h hit).2
end Mine
end F_Abs40
section F_Abs41
open PySem PySem.W PySem.Spec PySem.Calls PyProof.Rows
namespace Mine
noncomputable def enumD (b : Array UInt8) : List D := b.toList.zipIdx.map fun x => D.tup [.int (x.2 : Int), .int (x.1.toNat : Int)]
noncomputable def enumK (ds : List D) (k : Array UInt8 → Prop) : Prop := match ds with
  | [.bytes b] => k b
  | _ => False
noncomputable def pCompE (ks : List (NK × Str)) (names : List (Str × NameKind)) (Ps : EvsP) (P' : EvP) : EvP := fun ℓ σ Q E => ∃ cl, cloOf ℓ.cel names [] = some cl ∧ Ps ℓ σ (fun ds σ1 => enumK ds fun b =>
  b.size ≤ 1000 ∧ compP (.tp ks) P' (enumD b) ⟨fun _ => none, cl⟩ σ1 [] (fun ds σ' => ∀ a, σ' a = none → Q (.ref a) (σ'.put a (.list ds))) E) E
theorem SndE.compEnum {nk : Str → Option NK} {n c : Nat} {ks : List (NK × Str)} {es : List Expr} {kk : Nat} {px np cpos pos : Pos} {args : List Expr} {elt : Expr} {Ps : EvsP} {P' : EvP} {scope : Scope} (hkind : scope.kind = .function) (hcell : ∀ y ∈ scope.names, y.2 ≠ .cell) (hnames : ∀ x ∈ scope.names, x.2 = .local → scope.names.lookup x.1 = some .local)
    (ht : TgtOk (nkOf scope.names) (.tp ks) (.Tuple es kk px)) (hx : nk "enumerate" = some .glb) (hg : GName "enumerate" (.type "enumerate")) (Hs : SndEs nk n c cpos args Ps) (hpl : ∀ env, (backTo cpos (starEach args env)).any (·.1) = false) (HE : SndE (nkOf scope.names) n c elt P')
    (hfs : ∀ env x, foldedSetIterable (.Call (.Name "enumerate" np) args [] cpos) env x = pure x) :
    SndE nk n c (.ListComp elt [⟨.Tuple es kk px, .Call (.Name "enumerate" np) args [] cpos, [], 0⟩] scope pos) (pCompE ks scope.names Ps P') := by
  intro X ℓ σ s Q E fm dy hp
  rw [eval_ListComp]
  obtain ⟨cl, q, hp⟩ := hp
  refine wpAny_comprehension_free (use := Option.none) rfl (fun x => hfs X.env x) (clo_ok (by rw [dy.cel]; exact q)) hkind hnames ?_
  refine wpAny_Call_NameR (glob_ok (s := s) (h1 := s.heap) (tk1 := s.toks) fm dy hx hg (by decide) ?_)
  refine callWith_of (P := fun _ => True) (by rw [hpl]; rfl) (fun h _ => ⟨.machine, .inr (.inl rfl), .of_pure rfl⟩) (evalArgs_of (hpl _) (Hs.run fm dy (xs := []) Kp.refl hp fun vs ds σ1 h1 tk1 rs dy1 _ kp1 t1 hp1 => ?_))
  refine ⟨trivial, ?_⟩
  obtain ⟨d, rfl⟩ := oneD (M := fun ds => enumK ds _) hp1 (fun h => h) fun a b r h => by cases a <;> exact h
  cases d with
  | bytes b =>
    replace hp1 : _ ∧ _ := hp1
    obtain ⟨v, _, rfl, rv, r⟩ := rs.cons_inv; cases r.nil_inv
    obtain ⟨t, rfl⟩ := rv.bytes_inv
    refine enum_bytes (s := { s with heap := h1, toks := tk1 }) fun h' he hb hz hk => ?_
    refine wpAny_pyIter_enum he ?_
    have hlen : b.size = (enumD b).length := by simp [enumD]
    have ne : h1.objs.size + 1 ≠ h1.objs.size := Nat.ne_of_gt (Nat.lt_succ_self _)
    refine comp_coreG (s := s) (fz := Option.none) fm hkind hcell ht HE dy1 hk (fun a ha => (List.mem_cons.mp ha).elim (fun q => q ▸ New.ge dy1 (Nat.le_succ _)) fun q => List.mem_singleton.mp q ▸ dy1.newA) hlen (by rw [← hlen]; lia) (vs_enum (b := b) (t := t) fm.handled ne).g ⟨⟨_, he⟩, hb⟩ (fun _ e => nomatch e) (fun _ _ _ => trivial) (fun i h v hi hv tk => ?_) hp1.2 ?_ ?_
    · obtain ⟨T, c', u1, u2, rfl, hc, oT, hT1, hT2, nT, hT3⟩ := hv
      refine ⟨.tup [.int (i : Int), .int (c'.toNat : Int)], ?_, .tup hT1 hT2 hT3 (.cons (.int _ _) (.cons (.int _ _) .nil))⟩
      have h0 : b.toList[i]? = some c' := by rw [Array.getElem?_toList]; exact hc
      unfold enumD
      rw [List.getElem?_map, List.getElem?_zipIdx, h0]
      simp
    · intro D C ys ds σ' h'' tk m' nD nC hCD hσD es hCf dy' kp' hn hD vr hq
      refine ⟨m', hn, fun h3 hs3 => ?_⟩
      have w := wd_same (X := X) hs3 hCf
      have t' := w.tupK dy' es
      obtain ⟨dyT, kpT, hT⟩ := comp_done (fz := Option.none) (σ' := σ') dy1 (fun _ e => nomatch e) nD (w.dy dy' es) (w.kp kp' fun a ha => by rw [List.mem_singleton.mp ha]; exact nC.1) (hs3.extBut _ _ (Ne.symm hCD) hD) hσD (vr.keep t')
      exact PE.mk (σ := σ) (.ref _) dyT (kp1.trans kpT) (hq D hσD)
    · intro D C cls e σ' h'' tk m' nC es hCf dy' kp' hn ex hq
      exact comp_err (fz := Option.none) dy kp1 dy1 (fun _ e => nomatch e) es hCf nC dy' kp' hn ex hq
  | _ => exact hp1.elim
end Mine
end F_Abs41
section F_Abs42
open PySem PySem.W PySem.Spec PySem.Calls PyProof.Rows
namespace Mine
inductive KeyRows : List D → List Ky → Prop
  | nil : KeyRows [] []
  | cons {k r xs ks} : KeyRows xs ks → KeyRows (.tup (kyD k :: r) :: xs) (k :: ks)
theorem KeyRows.length {xs ks} (h : KeyRows xs ks) : xs.length = ks.length := by
  induction h with
  | nil => rfl
  | cons _ ih => simp [ih]
theorem KeyRows.keys (w : World) {h : Heap} {xs ks} (K : KeyRows xs ks) : ∀ {vs}, VRs h vs xs → RowKeys h vs ks := by
  induction K with
  | nil => intro vs r; cases r; exact ⟨rfl, fun i v k e => by simp at e⟩
  | @cons k r xs ks _ ih =>
    intro vs rs
    obtain ⟨v, vs', rfl, rv, rs'⟩ := rs.cons_inv
    obtain ⟨ih1, ih2⟩ := ih rs'
    refine ⟨by simp [ih1], fun i v' k' e1 e2 => ?_⟩
    cases i with
    | zero =>
      simp only [List.getElem?_cons_zero, Option.some.injEq] at e1 e2
      subst e1 e2
      obtain ⟨a, o, ws, n, rfl, g1, g2, g3, g4⟩ := rv.tup_inv
      obtain ⟨v0, l0, e0, r0, _⟩ := g4.cons_inv
      obtain ⟨x, rfl, hk⟩ := vr_ky w r0
      exact ⟨a, o, ws, n, x, l0, rfl, g1, g2, g3, e0, hk⟩
    | succ i => exact ih2 i v' k' (by simpa using e1) (by simpa using e2)
theorem vrs_pick {h : Heap} {vs : List Value} {xs : List D} (r : VRs h vs xs) : ∀ {p : List Nat}, (∀ i ∈ p, i < xs.length) → VRs h (p.map fun i => vs.getD i .none) (p.map fun i => xs.getD i .none)
  | [], _ => .nil
  | i :: p, hp => by
    have hi := hp i (.head _)
    have hi' : i < vs.length := by rw [r.length]; exact hi
    obtain ⟨d, hd, rd⟩ := r.at (i := i) (v := vs[i]) (List.getElem?_eq_getElem hi')
    rw [List.getElem?_eq_getElem hi] at hd
    cases hd
    refine .cons ?_ (vrs_pick r fun j hj => hp j (.tail _ hj))
    simpa [List.getD, hi, hi'] using rd
noncomputable def picked (xs : List D) (ks : List Ky) (σ : St) (Q : D → St → Prop) : Prop := ks.Nodup ∧ (∀ k ∈ ks, k ∈ keysS) ∧ ks.length ≤ 6 ∧
  ∀ p : List Nat, (∀ i ∈ p, i < ks.length) → p.map (fun i => ks.getD i dK) = keysS.filter (fun k => ks.contains k) → ∀ c, σ c = none → Q (.ref c) (σ.put c (.list (p.map fun i => xs.getD i .none)))
noncomputable def fSorted : FP := fun ds σ Q E => match ds with
  | [.ref a] => (match σ a with
    | some (.list xs) => ∃ ks, KeyRows xs ks ∧ picked xs ks σ Q
    | some (.dict es) => picked (es.map fun e => kyD e.1) (es.map (·.1)) σ Q
    | _ => False)
  | _ => False
theorem sort_core {nk n c} {X : Cx} {ℓ : Lc} {σ : St} {s : Shared} {E : Value → Shared → Prop} {R : Value → Shared → Prop} {xs : List D} {ks : List Ky} {Q : D → St → Prop} (fm : Fm nk n c X) (dy : Dy X ℓ σ s.heap) (hp : picked xs ks σ Q)
    {vs : List Value} {B : Addr} {h1 : Heap} {tk1 : Nat} {m : Str → Option Value} (hm : s.heap.Ns X.env.locals m) (F : Fr emptyH X.env.locals h1 m) (N : News emptyH X.env.locals h1 ((B, listOf vs.toArray 0) :: allOf s.heap X.env.locals)) (l1 : ∀ q ∈ allOf s.heap X.env.locals, q.1 < B)
    (hv : VRs s.heap vs xs) (hlen : xs.length = ks.length) (hS : ∀ h', VRs h' vs xs → Sortable h' vs ks)
    (k : ∀ v d σ2 h2 tk2, VR h2 v d → Dy X ℓ σ2 h2 → Kp X.fr [] σ s.heap σ2 h2 → Q d σ2 → R v { s with heap := h2, toks := tk2 }) :
    wpAny (model prg X.w) X.A.in1 (call (.builtin "list.sort") [.ref B]) (fun _ s' => R (.ref B) s') E { s with heap := h1, toks := tk1 } := by
  obtain ⟨hn, hk, h6, hq⟩ := hp
  have off : ∀ p ∈ allOf s.heap X.env.locals, p.1 ≠ B := fun p hp => Nat.ne_of_lt (l1 p hp)
  refine lsort_keys (s := { s with heap := h1, toks := tk1 }) (vs := vs) (ks := ks) (g := fun o => (B, o) :: allOf s.heap X.env.locals) (hv.length.trans hlen) h6 hn hk F N (UpdF.head off) (show X.A.units + 1 + 60 < cLine by have := fm.units; lia)
    (fun h'' e1 F'' N'' => ?_) (fun e1 => UpdF.head off) fun p h'' c' hp' hpk F'' N'' => ?_
  · obtain ⟨_, _, t⟩ := dy.growN (new := [_]) hm F'' N''
    exact hS h'' (hv.keep t)
  · obtain ⟨dy1, kp1, t⟩ := dy.growN (new := [_]) hm F'' N''
    have hB : New s.heap B := new_of dy l1 (N'' (B, _) (.head _)).2.1
    obtain ⟨dy2, kp2⟩ := dy.addTo (o := .list (p.map fun i => xs.getD i .none)) dy1 kp1 hB ⟨_, _, _, (N'' (B, _) (.head _)).1, rfl, rfl, vrs_pick (hv.keep t) (by rw [hlen]; exact hp')⟩
    exact k _ _ _ h'' tk1 (.ref _) dy2 kp2 (hq p hp' hpk _ (dy.fresh hB))
theorem kdl_heap {w : World} {d : Addr} {es : Array DictEntry} {ep : Nat} (lo : (d == sysModules) = false) : KdlSrc prg w "dict" d d es.size (fun i v => (es.toList.map (·.key))[i]? = some v) (fun h => DEnt h d es ep) where
  type := fun _ hm => hm.typeIs
  there := fun _ hm => let ⟨o, ho, _⟩ := hm; ⟨Heap.lt_size ho, Heap.lt_size ho⟩
  keep := fun _ _ hm hk => hm.at_ fun o e => hk d (.inl rfl) o e
  notList := by decide
  notTuple := by decide
  hint := fun _ _ _ _ hm hq => kdl_hint_dict hm.typeIs hq
  iter := fun A s hh hm => by
    have hlt : d < s.heap.objs.size := let ⟨o, ho, _⟩ := hm; Heap.lt_size ho
    have hne : d ≠ s.heap.objs.size := Nat.ne_of_lt hlt
    refine ⟨_, fun i h => h.IsKeyIter s.heap.objs.size d i es.size ep ∧ DEnt h d es ep, fun _ _ hq => dict_iter lo hm hq, ?_, ⟨_, Heap.get?_push_size _ rfl, rfl, rfl⟩, hm.at_ fun o e => Heap.get?_push_of_some _ e⟩
    exact { sub := fun b hb => by simp at hb; simp [hb]
            frame := fun _ _ _ st hk => ⟨by obtain ⟨o, q, r⟩ := st.1; exact ⟨o, hk _ (by simp) o q, r⟩, st.2.at_ fun o e => hk d (by simp) o e⟩
            item := fun i s Q E hi st hQ => next_keyiter st.1 st.2 hi fun h' hit' hs' => hQ _ h' s.toks (by simp [hi]) ⟨hit', st.2.at_ fun o e => hs'.extBut _ _ hne e⟩ fun b o hb e => hs'.extBut b o (fun h => hb (by simp [h])) e
            done := fun s Q E st hQ => end_keyiter hh st.1 st.2 fun h' he' => hQ h' s.toks fun b o hb e => he' b o (fun h => hb (by simp [h])) e
            self := fun _ _ _ _ st hQ => self_keyiter st.1 hQ }
theorem keyVals_of (w : World) {h : Heap} {vs : List Value} {es : List (Ky × D)} (r : VRs h vs (es.map fun e => kyD e.1)) : KeyVals h vs (es.map (·.1)) := by
  refine ⟨by rw [r.length, List.length_map, List.length_map], fun i v k e1 e2 => ?_⟩
  obtain ⟨d, hd, rd⟩ := r.at e1
  rw [List.getElem?_map, Option.map_eq_some_iff] at hd e2
  obtain ⟨e, he, rfl⟩ := hd
  obtain ⟨e', he', rfl⟩ := e2
  rw [he] at he'; cases he'
  exact vr_ky w rd
theorem vrs_all {h : Heap} : ∀ {vs : List Value} {xs : List D}, vs.length = xs.length → (∀ (j : Nat) (v : Value), vs[j]? = some v → ∃ d, xs[j]? = some d ∧ VR h v d) → VRs h vs xs
  | [], [], _, _ => .nil
  | [], _ :: _, e, _ => by simp at e
  | _ :: _, [], e, _ => by simp at e
  | v :: vs, x :: xs, e, H => by
    obtain ⟨d, hd, r⟩ := H 0 v rfl
    simp only [List.getElem?_cons_zero, Option.some.injEq] at hd
    subst hd
    exact .cons r (vrs_all (by simpa using e) fun j v' hj => by
      obtain ⟨d, hd, r⟩ := H (j + 1) v' (by simpa using hj)
      exact ⟨d, by simpa using hd, r⟩)
theorem SndF.sorted {n} : SndF n (.builtin "sorted") fSorted := fun nk c X ℓ σ s Q E vs ds fm dy rs hp => by
  obtain ⟨m, F, N, hm⟩ := dy.frE
  obtain ⟨d, rfl⟩ := oneD (M := fun ds => fSorted ds σ Q E) hp (fun h => h) fun a b r h => by cases a <;> exact h
  cases d with
  | ref a =>
    obtain ⟨v, _, rfl, rv, r⟩ := rs.cons_inv; cases r.nil_inv
    cases rv.ref_inv
    dsimp only [fSorted] at hp
    cases ha : σ a with
    | none => rw [ha] at hp; exact hp.elim
    | some o =>
    rw [ha] at hp
    cases o with
    | list xs =>
      obtain ⟨ks, hk, hp⟩ := hp
      obtain ⟨o, ws, k, g1, g2, g3, g4⟩ := dy.rep _ _ ha
      have hlen := hk.length
      refine sorted_to F N (vs := ws.toList) ⟨o, g1, g2, k, by rw [Array.toArray_toList]; exact g3⟩ (by rw [g4.length, hlen, sizeLine_eq]; have := hp.2.2.1; omega) fun B h' F' N' l1 => ?_
      exact sort_core (tk1 := s.toks) fm dy hp hm F' N' l1 g4 hlen (fun h' r => (hk.keys X.w r).sortable hp.1 hp.2.1) fun v d σ2 h2 tk2 rv dy2 kp2 q => PE.mk rv dy2 kp2 q
    | dict es =>
      obtain ⟨xs, hx, rx⟩ := dy.rep _ _ ha
      obtain ⟨des, ep, Dd, hes⟩ := dEnt_of hx
      have hlen : des.size = es.length := by rw [size_of_entries hes, rx.length]
      refine kdu_sorted (kdl_heap (not_sys (dy.low _ (by rw [ha]; simp)).2)) fm.handled F N Dd (by rw [hlen, sizeLine_eq]; have := hp.2.2.1; simp only [List.length_map] at this; omega) fun B h' tk ws F' N' l1 hl hv => ?_
      have hvr : VRs s.heap ws (es.map fun e => kyD e.1) := by
        refine vrs_all (by rw [hl, hlen, List.length_map]) fun j v hj => ?_
        have := hv j v hj
        rw [hes, List.map_map, List.getElem?_map, Option.map_eq_some_iff] at this
        obtain ⟨⟨k, a, v'⟩, hi, e⟩ := this
        obtain ⟨x, h2, r⟩ := rx.at hi
        refine ⟨kyD k, by rw [List.getElem?_map, h2]; rfl, ?_⟩
        have hky : isKy s.heap k a := by
          obtain ⟨_, _, _, _, _, _, _, hi', _⟩ := hx
          exact hi' _ (List.mem_of_getElem? hi)
        rw [← e]
        exact vr_of_ky hky
      exact sort_core fm dy hp hm F' N' l1 hvr (by simp) (fun h' r => (keyVals_of X.w r).sortable hp.2.1) fun v d σ2 h2 tk2 rv dy2 kp2 q => PE.mk rv dy2 kp2 q
    | _ => exact hp.elim
  | _ => exact hp.elim
end Mine
end F_Abs42
section F_Fn1
open PySem PySem.W PySem.Spec PySem.Calls PyProof.Rows
namespace Mine
noncomputable def p0 : Params := { strHash := fun _ => 0, shareClass := fun _ => 0, mergeTok := fun t => t, idOf := fun _ => 0, idOfShared := fun _ _ => 0, followText := fun _ => false, idOfImm := fun _ => 0 }
noncomputable def objAt (p : Params) (a : Addr) : Option Obj := (hd.heap_1 p).lookup a
noncomputable def fdAt (a : Addr) : Option FuncData := match objAt p0 a with
  | some ⟨_, _, .func fd, _⟩ => some fd
  | _ => none
noncomputable def bodyAt (a : Addr) : Option (List Stmt) := match fdAt a with
  | some fd => (match fd.body with | .stmts b => some b | _ => none)
  | _ => none
noncomputable def Xb_28 : { b : List Stmt // bodyAt 28 = some b } := ⟨_, rfl⟩
noncomputable def Xs_28 : { b : Scope // (fdAt 28).map (·.scope) = some b } := ⟨_, rfl⟩
noncomputable def Xp_28 : { b : Arguments // (fdAt 28).map (·.params) = some b } := ⟨_, rfl⟩
def Xq_28 : { b : Str // (fdAt 28).map (·.qualname) = some b } := ⟨_, rfl⟩
noncomputable abbrev Fb_28 : List Stmt := Xb_28.1
noncomputable abbrev Fs_28 : Scope := Xs_28.1
noncomputable abbrev Fp_28 : Arguments := Xp_28.1
abbrev Fq_28 : Str := Xq_28.1
noncomputable def Xb_75 : { b : List Stmt // bodyAt 75 = some b } := ⟨_, rfl⟩
noncomputable def Xs_75 : { b : Scope // (fdAt 75).map (·.scope) = some b } := ⟨_, rfl⟩
noncomputable def Xp_75 : { b : Arguments // (fdAt 75).map (·.params) = some b } := ⟨_, rfl⟩
def Xq_75 : { b : Str // (fdAt 75).map (·.qualname) = some b } := ⟨_, rfl⟩
noncomputable abbrev Fb_75 : List Stmt := Xb_75.1
noncomputable abbrev Fs_75 : Scope := Xs_75.1
noncomputable abbrev Fp_75 : Arguments := Xp_75.1
abbrev Fq_75 : Str := Xq_75.1
noncomputable def Xb_80 : { b : List Stmt // bodyAt 80 = some b } := ⟨_, rfl⟩
noncomputable def Xs_80 : { b : Scope // (fdAt 80).map (·.scope) = some b } := ⟨_, rfl⟩
noncomputable def Xp_80 : { b : Arguments // (fdAt 80).map (·.params) = some b } := ⟨_, rfl⟩
def Xq_80 : { b : Str // (fdAt 80).map (·.qualname) = some b } := ⟨_, rfl⟩
noncomputable abbrev Fb_80 : List Stmt := Xb_80.1
noncomputable abbrev Fs_80 : Scope := Xs_80.1
noncomputable abbrev Fp_80 : Arguments := Xp_80.1
abbrev Fq_80 : Str := Xq_80.1
noncomputable def Xb_104 : { b : List Stmt // bodyAt 104 = some b } := ⟨_, rfl⟩
noncomputable def Xs_104 : { b : Scope // (fdAt 104).map (·.scope) = some b } := ⟨_, rfl⟩
noncomputable def Xp_104 : { b : Arguments // (fdAt 104).map (·.params) = some b } := ⟨_, rfl⟩
def Xq_104 : { b : Str // (fdAt 104).map (·.qualname) = some b } := ⟨_, rfl⟩
noncomputable abbrev Fb_104 : List Stmt := Xb_104.1
noncomputable abbrev Fs_104 : Scope := Xs_104.1
noncomputable abbrev Fp_104 : Arguments := Xp_104.1
abbrev Fq_104 : Str := Xq_104.1
noncomputable def Xb_111 : { b : List Stmt // bodyAt 111 = some b } := ⟨_, rfl⟩
noncomputable def Xs_111 : { b : Scope // (fdAt 111).map (·.scope) = some b } := ⟨_, rfl⟩
noncomputable def Xp_111 : { b : Arguments // (fdAt 111).map (·.params) = some b } := ⟨_, rfl⟩
def Xq_111 : { b : Str // (fdAt 111).map (·.qualname) = some b } := ⟨_, rfl⟩
noncomputable abbrev Fb_111 : List Stmt := Xb_111.1
noncomputable abbrev Fs_111 : Scope := Xs_111.1
noncomputable abbrev Fp_111 : Arguments := Xp_111.1
abbrev Fq_111 : Str := Xq_111.1
noncomputable def Xb_132 : { b : List Stmt // bodyAt 132 = some b } := ⟨_, rfl⟩
noncomputable def Xs_132 : { b : Scope // (fdAt 132).map (·.scope) = some b } := ⟨_, rfl⟩
noncomputable def Xp_132 : { b : Arguments // (fdAt 132).map (·.params) = some b } := ⟨_, rfl⟩
def Xq_132 : { b : Str // (fdAt 132).map (·.qualname) = some b } := ⟨_, rfl⟩
noncomputable abbrev Fb_132 : List Stmt := Xb_132.1
noncomputable abbrev Fs_132 : Scope := Xs_132.1
noncomputable abbrev Fp_132 : Arguments := Xp_132.1
abbrev Fq_132 : Str := Xq_132.1
noncomputable def Xb_154 : { b : List Stmt // bodyAt 154 = some b } := ⟨_, rfl⟩
noncomputable def Xs_154 : { b : Scope // (fdAt 154).map (·.scope) = some b } := ⟨_, rfl⟩
noncomputable def Xp_154 : { b : Arguments // (fdAt 154).map (·.params) = some b } := ⟨_, rfl⟩
def Xq_154 : { b : Str // (fdAt 154).map (·.qualname) = some b } := ⟨_, rfl⟩
noncomputable abbrev Fb_154 : List Stmt := Xb_154.1
noncomputable abbrev Fs_154 : Scope := Xs_154.1
noncomputable abbrev Fp_154 : Arguments := Xp_154.1
abbrev Fq_154 : Str := Xq_154.1
noncomputable def Xb_161 : { b : List Stmt // bodyAt 161 = some b } := ⟨_, rfl⟩
noncomputable def Xs_161 : { b : Scope // (fdAt 161).map (·.scope) = some b } := ⟨_, rfl⟩
noncomputable def Xp_161 : { b : Arguments // (fdAt 161).map (·.params) = some b } := ⟨_, rfl⟩
def Xq_161 : { b : Str // (fdAt 161).map (·.qualname) = some b } := ⟨_, rfl⟩
noncomputable abbrev Fb_161 : List Stmt := Xb_161.1
noncomputable abbrev Fs_161 : Scope := Xs_161.1
noncomputable abbrev Fp_161 : Arguments := Xp_161.1
abbrev Fq_161 : Str := Xq_161.1
noncomputable def Xb_168 : { b : List Stmt // bodyAt 168 = some b } := ⟨_, rfl⟩
noncomputable def Xs_168 : { b : Scope // (fdAt 168).map (·.scope) = some b } := ⟨_, rfl⟩
noncomputable def Xp_168 : { b : Arguments // (fdAt 168).map (·.params) = some b } := ⟨_, rfl⟩
def Xq_168 : { b : Str // (fdAt 168).map (·.qualname) = some b } := ⟨_, rfl⟩
noncomputable abbrev Fb_168 : List Stmt := Xb_168.1
noncomputable abbrev Fs_168 : Scope := Xs_168.1
noncomputable abbrev Fp_168 : Arguments := Xp_168.1
abbrev Fq_168 : Str := Xq_168.1
noncomputable def Xb_175 : { b : List Stmt // bodyAt 175 = some b } := ⟨_, rfl⟩
noncomputable def Xs_175 : { b : Scope // (fdAt 175).map (·.scope) = some b } := ⟨_, rfl⟩
noncomputable def Xp_175 : { b : Arguments // (fdAt 175).map (·.params) = some b } := ⟨_, rfl⟩
def Xq_175 : { b : Str // (fdAt 175).map (·.qualname) = some b } := ⟨_, rfl⟩
noncomputable abbrev Fb_175 : List Stmt := Xb_175.1
noncomputable abbrev Fs_175 : Scope := Xs_175.1
noncomputable abbrev Fp_175 : Arguments := Xp_175.1
abbrev Fq_175 : Str := Xq_175.1
noncomputable def Xb_196 : { b : List Stmt // bodyAt 196 = some b } := ⟨_, rfl⟩
noncomputable def Xs_196 : { b : Scope // (fdAt 196).map (·.scope) = some b } := ⟨_, rfl⟩
noncomputable def Xp_196 : { b : Arguments // (fdAt 196).map (·.params) = some b } := ⟨_, rfl⟩
def Xq_196 : { b : Str // (fdAt 196).map (·.qualname) = some b } := ⟨_, rfl⟩
noncomputable abbrev Fb_196 : List Stmt := Xb_196.1
noncomputable abbrev Fs_196 : Scope := Xs_196.1
noncomputable abbrev Fp_196 : Arguments := Xp_196.1
abbrev Fq_196 : Str := Xq_196.1
noncomputable def Xb_210 : { b : List Stmt // bodyAt 210 = some b } := ⟨_, rfl⟩
noncomputable def Xs_210 : { b : Scope // (fdAt 210).map (·.scope) = some b } := ⟨_, rfl⟩
noncomputable def Xp_210 : { b : Arguments // (fdAt 210).map (·.params) = some b } := ⟨_, rfl⟩
def Xq_210 : { b : Str // (fdAt 210).map (·.qualname) = some b } := ⟨_, rfl⟩
noncomputable abbrev Fb_210 : List Stmt := Xb_210.1
noncomputable abbrev Fs_210 : Scope := Xs_210.1
noncomputable abbrev Fp_210 : Arguments := Xp_210.1
abbrev Fq_210 : Str := Xq_210.1
noncomputable def Xb_217 : { b : List Stmt // bodyAt 217 = some b } := ⟨_, rfl⟩
noncomputable def Xs_217 : { b : Scope // (fdAt 217).map (·.scope) = some b } := ⟨_, rfl⟩
noncomputable def Xp_217 : { b : Arguments // (fdAt 217).map (·.params) = some b } := ⟨_, rfl⟩
def Xq_217 : { b : Str // (fdAt 217).map (·.qualname) = some b } := ⟨_, rfl⟩
noncomputable abbrev Fb_217 : List Stmt := Xb_217.1
noncomputable abbrev Fs_217 : Scope := Xs_217.1
noncomputable abbrev Fp_217 : Arguments := Xp_217.1
abbrev Fq_217 : Str := Xq_217.1
noncomputable def Xb_224 : { b : List Stmt // bodyAt 224 = some b } := ⟨_, rfl⟩
noncomputable def Xs_224 : { b : Scope // (fdAt 224).map (·.scope) = some b } := ⟨_, rfl⟩
noncomputable def Xp_224 : { b : Arguments // (fdAt 224).map (·.params) = some b } := ⟨_, rfl⟩
def Xq_224 : { b : Str // (fdAt 224).map (·.qualname) = some b } := ⟨_, rfl⟩
noncomputable abbrev Fb_224 : List Stmt := Xb_224.1
noncomputable abbrev Fs_224 : Scope := Xs_224.1
noncomputable abbrev Fp_224 : Arguments := Xp_224.1
abbrev Fq_224 : Str := Xq_224.1
noncomputable def Xb_229 : { b : List Stmt // bodyAt 229 = some b } := ⟨_, rfl⟩
noncomputable def Xs_229 : { b : Scope // (fdAt 229).map (·.scope) = some b } := ⟨_, rfl⟩
noncomputable def Xp_229 : { b : Arguments // (fdAt 229).map (·.params) = some b } := ⟨_, rfl⟩
def Xq_229 : { b : Str // (fdAt 229).map (·.qualname) = some b } := ⟨_, rfl⟩
noncomputable abbrev Fb_229 : List Stmt := Xb_229.1
noncomputable abbrev Fs_229 : Scope := Xs_229.1
noncomputable abbrev Fp_229 : Arguments := Xp_229.1
abbrev Fq_229 : Str := Xq_229.1
noncomputable def Xb_236 : { b : List Stmt // bodyAt 236 = some b } := ⟨_, rfl⟩
noncomputable def Xs_236 : { b : Scope // (fdAt 236).map (·.scope) = some b } := ⟨_, rfl⟩
noncomputable def Xp_236 : { b : Arguments // (fdAt 236).map (·.params) = some b } := ⟨_, rfl⟩
def Xq_236 : { b : Str // (fdAt 236).map (·.qualname) = some b } := ⟨_, rfl⟩
noncomputable abbrev Fb_236 : List Stmt := Xb_236.1
noncomputable abbrev Fs_236 : Scope := Xs_236.1
noncomputable abbrev Fp_236 : Arguments := Xp_236.1
abbrev Fq_236 : Str := Xq_236.1
noncomputable def Xb_243 : { b : List Stmt // bodyAt 243 = some b } := ⟨_, rfl⟩
noncomputable def Xs_243 : { b : Scope // (fdAt 243).map (·.scope) = some b } := ⟨_, rfl⟩
noncomputable def Xp_243 : { b : Arguments // (fdAt 243).map (·.params) = some b } := ⟨_, rfl⟩
def Xq_243 : { b : Str // (fdAt 243).map (·.qualname) = some b } := ⟨_, rfl⟩
noncomputable abbrev Fb_243 : List Stmt := Xb_243.1
noncomputable abbrev Fs_243 : Scope := Xs_243.1
noncomputable abbrev Fp_243 : Arguments := Xp_243.1
abbrev Fq_243 : Str := Xq_243.1
noncomputable def Xb_248 : { b : List Stmt // bodyAt 248 = some b } := ⟨_, rfl⟩
noncomputable def Xs_248 : { b : Scope // (fdAt 248).map (·.scope) = some b } := ⟨_, rfl⟩
noncomputable def Xp_248 : { b : Arguments // (fdAt 248).map (·.params) = some b } := ⟨_, rfl⟩
def Xq_248 : { b : Str // (fdAt 248).map (·.qualname) = some b } := ⟨_, rfl⟩
noncomputable abbrev Fb_248 : List Stmt := Xb_248.1
noncomputable abbrev Fs_248 : Scope := Xs_248.1
noncomputable abbrev Fp_248 : Arguments := Xp_248.1
abbrev Fq_248 : Str := Xq_248.1
noncomputable def Xb_253 : { b : List Stmt // bodyAt 253 = some b } := ⟨_, rfl⟩
noncomputable def Xs_253 : { b : Scope // (fdAt 253).map (·.scope) = some b } := ⟨_, rfl⟩
noncomputable def Xp_253 : { b : Arguments // (fdAt 253).map (·.params) = some b } := ⟨_, rfl⟩
def Xq_253 : { b : Str // (fdAt 253).map (·.qualname) = some b } := ⟨_, rfl⟩
noncomputable abbrev Fb_253 : List Stmt := Xb_253.1
noncomputable abbrev Fs_253 : Scope := Xs_253.1
noncomputable abbrev Fp_253 : Arguments := Xp_253.1
abbrev Fq_253 : Str := Xq_253.1
noncomputable def Xb_267 : { b : List Stmt // bodyAt 267 = some b } := ⟨_, rfl⟩
noncomputable def Xs_267 : { b : Scope // (fdAt 267).map (·.scope) = some b } := ⟨_, rfl⟩
noncomputable def Xp_267 : { b : Arguments // (fdAt 267).map (·.params) = some b } := ⟨_, rfl⟩
def Xq_267 : { b : Str // (fdAt 267).map (·.qualname) = some b } := ⟨_, rfl⟩
noncomputable abbrev Fb_267 : List Stmt := Xb_267.1
noncomputable abbrev Fs_267 : Scope := Xs_267.1
noncomputable abbrev Fp_267 : Arguments := Xp_267.1
abbrev Fq_267 : Str := Xq_267.1
noncomputable def Xb_272 : { b : List Stmt // bodyAt 272 = some b } := ⟨_, rfl⟩
noncomputable def Xs_272 : { b : Scope // (fdAt 272).map (·.scope) = some b } := ⟨_, rfl⟩
noncomputable def Xp_272 : { b : Arguments // (fdAt 272).map (·.params) = some b } := ⟨_, rfl⟩
def Xq_272 : { b : Str // (fdAt 272).map (·.qualname) = some b } := ⟨_, rfl⟩
noncomputable abbrev Fb_272 : List Stmt := Xb_272.1
noncomputable abbrev Fs_272 : Scope := Xs_272.1
noncomputable abbrev Fp_272 : Arguments := Xp_272.1
abbrev Fq_272 : Str := Xq_272.1
noncomputable def Xb_279 : { b : List Stmt // bodyAt 279 = some b } := ⟨_, rfl⟩
noncomputable def Xs_279 : { b : Scope // (fdAt 279).map (·.scope) = some b } := ⟨_, rfl⟩
noncomputable def Xp_279 : { b : Arguments // (fdAt 279).map (·.params) = some b } := ⟨_, rfl⟩
def Xq_279 : { b : Str // (fdAt 279).map (·.qualname) = some b } := ⟨_, rfl⟩
noncomputable abbrev Fb_279 : List Stmt := Xb_279.1
noncomputable abbrev Fs_279 : Scope := Xs_279.1
noncomputable abbrev Fp_279 : Arguments := Xp_279.1
abbrev Fq_279 : Str := Xq_279.1
noncomputable def Xb_286 : { b : List Stmt // bodyAt 286 = some b } := ⟨_, rfl⟩
noncomputable def Xs_286 : { b : Scope // (fdAt 286).map (·.scope) = some b } := ⟨_, rfl⟩
noncomputable def Xp_286 : { b : Arguments // (fdAt 286).map (·.params) = some b } := ⟨_, rfl⟩
def Xq_286 : { b : Str // (fdAt 286).map (·.qualname) = some b } := ⟨_, rfl⟩
noncomputable abbrev Fb_286 : List Stmt := Xb_286.1
noncomputable abbrev Fs_286 : Scope := Xs_286.1
noncomputable abbrev Fp_286 : Arguments := Xp_286.1
abbrev Fq_286 : Str := Xq_286.1
noncomputable def Xb_291 : { b : List Stmt // bodyAt 291 = some b } := ⟨_, rfl⟩
noncomputable def Xs_291 : { b : Scope // (fdAt 291).map (·.scope) = some b } := ⟨_, rfl⟩
noncomputable def Xp_291 : { b : Arguments // (fdAt 291).map (·.params) = some b } := ⟨_, rfl⟩
def Xq_291 : { b : Str // (fdAt 291).map (·.qualname) = some b } := ⟨_, rfl⟩
noncomputable abbrev Fb_291 : List Stmt := Xb_291.1
noncomputable abbrev Fs_291 : Scope := Xs_291.1
noncomputable abbrev Fp_291 : Arguments := Xp_291.1
abbrev Fq_291 : Str := Xq_291.1
noncomputable def Xb_296 : { b : List Stmt // bodyAt 296 = some b } := ⟨_, rfl⟩
noncomputable def Xs_296 : { b : Scope // (fdAt 296).map (·.scope) = some b } := ⟨_, rfl⟩
noncomputable def Xp_296 : { b : Arguments // (fdAt 296).map (·.params) = some b } := ⟨_, rfl⟩
def Xq_296 : { b : Str // (fdAt 296).map (·.qualname) = some b } := ⟨_, rfl⟩
noncomputable abbrev Fb_296 : List Stmt := Xb_296.1
noncomputable abbrev Fs_296 : Scope := Xs_296.1
noncomputable abbrev Fp_296 : Arguments := Xp_296.1
abbrev Fq_296 : Str := Xq_296.1
noncomputable def Xb_303 : { b : List Stmt // bodyAt 303 = some b } := ⟨_, rfl⟩
noncomputable def Xs_303 : { b : Scope // (fdAt 303).map (·.scope) = some b } := ⟨_, rfl⟩
noncomputable def Xp_303 : { b : Arguments // (fdAt 303).map (·.params) = some b } := ⟨_, rfl⟩
def Xq_303 : { b : Str // (fdAt 303).map (·.qualname) = some b } := ⟨_, rfl⟩
noncomputable abbrev Fb_303 : List Stmt := Xb_303.1
noncomputable abbrev Fs_303 : Scope := Xs_303.1
noncomputable abbrev Fp_303 : Arguments := Xp_303.1
abbrev Fq_303 : Str := Xq_303.1
noncomputable def Xb_310 : { b : List Stmt // bodyAt 310 = some b } := ⟨_, rfl⟩
noncomputable def Xs_310 : { b : Scope // (fdAt 310).map (·.scope) = some b } := ⟨_, rfl⟩
noncomputable def Xp_310 : { b : Arguments // (fdAt 310).map (·.params) = some b } := ⟨_, rfl⟩
def Xq_310 : { b : Str // (fdAt 310).map (·.qualname) = some b } := ⟨_, rfl⟩
noncomputable abbrev Fb_310 : List Stmt := Xb_310.1
noncomputable abbrev Fs_310 : Scope := Xs_310.1
noncomputable abbrev Fp_310 : Arguments := Xp_310.1
abbrev Fq_310 : Str := Xq_310.1
noncomputable def Xb_315 : { b : List Stmt // bodyAt 315 = some b } := ⟨_, rfl⟩
noncomputable def Xs_315 : { b : Scope // (fdAt 315).map (·.scope) = some b } := ⟨_, rfl⟩
noncomputable def Xp_315 : { b : Arguments // (fdAt 315).map (·.params) = some b } := ⟨_, rfl⟩
def Xq_315 : { b : Str // (fdAt 315).map (·.qualname) = some b } := ⟨_, rfl⟩
noncomputable abbrev Fb_315 : List Stmt := Xb_315.1
noncomputable abbrev Fs_315 : Scope := Xs_315.1
noncomputable abbrev Fp_315 : Arguments := Xp_315.1
abbrev Fq_315 : Str := Xq_315.1
noncomputable def Xb_322 : { b : List Stmt // bodyAt 322 = some b } := ⟨_, rfl⟩
noncomputable def Xs_322 : { b : Scope // (fdAt 322).map (·.scope) = some b } := ⟨_, rfl⟩
noncomputable def Xp_322 : { b : Arguments // (fdAt 322).map (·.params) = some b } := ⟨_, rfl⟩
def Xq_322 : { b : Str // (fdAt 322).map (·.qualname) = some b } := ⟨_, rfl⟩
noncomputable abbrev Fb_322 : List Stmt := Xb_322.1
noncomputable abbrev Fs_322 : Scope := Xs_322.1
noncomputable abbrev Fp_322 : Arguments := Xp_322.1
abbrev Fq_322 : Str := Xq_322.1
theorem Fm.le {nk m n c X} (h : m ≤ n) (fm : Fm nk n c X) : Fm nk m c X :=
  ⟨fm.G, fm.fr, fm.frames, fm.handled, fm.guards, by have := fm.depth; omega, by have := fm.units; lia, fm.kind, fm.names, fm.globals, fm.builtins⟩
theorem SndF.up {m n f P} (h : m ≤ n) (H : SndF m f P) : SndF n f P := fun nk c X ℓ σ s Q E vs ds fm dy rs hp => H nk c X ℓ σ s Q E vs ds (fm.le h) dy rs hp
theorem SndFc.up {m n f P} (h : m ≤ n) (H : SndFc m f P) : SndFc n f P := fun nk c X ℓ σ s Q E vs ds fm dy rs hp => H nk c X ℓ σ s Q E vs ds (fm.le h) dy rs hp
theorem SndFR.up {m n f P} (h : m ≤ n) (H : SndFR m f P) : SndFR n f P := fun nk c X ℓ σ s Q E vs ds fm dy rs hp => H nk c X ℓ σ s Q E vs ds (fm.le h) dy rs hp
theorem SndFcR.up {m n f P} (h : m ≤ n) (H : SndFcR m f P) : SndFcR n f P := fun nk c X ℓ σ s Q E vs ds fm dy rs hp => H nk c X ℓ σ s Q E vs ds (fm.le h) dy rs hp
theorem KsOk.nil {nk} : KsOk nk [] := fun _ h => nomatch h
theorem KsOk.cons {nk : Str → Option NK} {k x ks} (h : nk x = some k) (r : KsOk nk ks) : KsOk nk ((k, x) :: ks) := fun p hp => by
  rcases List.mem_cons.mp hp with rfl | hp
  · exact h
  · exact r p hp
theorem bsPlain_kinds {xs : List Str} {names : List (Str × NameKind)} (hk : ∀ x ∈ xs, names.lookup x = some .local ∨ names.lookup x = some .cell) (ds : List D) (b : List (Str × D)) (h : bsPlain xs ds = some b) : ∀ x ∈ b.map (·.1), names.lookup x = some .local ∨ names.lookup x = some .cell := fun x hx => by
  unfold bsPlain at h
  split at h
  · cases h
    obtain ⟨p, hp, rfl⟩ := List.mem_map.mp hx
    exact hk _ (List.of_mem_zip hp).1
  · cases h
theorem bsPlain_ok {w : World} {s : Shared} {fd : FuncData} {xs : List Str} (hb : ∀ vs : List Value, vs.length = xs.length → BindsTo s fd ⟨vs, []⟩ (xs.zip vs)) {vs ds b} (rs : VRs s.heap vs ds) (h : bsPlain xs ds = some b) : ∃ vb, BindsTo s fd ⟨vs, []⟩ vb ∧ BRel s.heap vb b := by
  unfold bsPlain at h
  split at h
  · rename_i q
    cases h
    exact ⟨_, hb vs (rs.length.trans q), BRel.zip rs⟩
  · cases h
noncomputable def isStar : PySem.Expr → Bool
  | .Starred .. => true
  | _ => false
theorem starEach_cons {e : PySem.Expr} {es : List PySem.Expr} {env : Env} (h : isStar e = false) : starEach (e :: es) env = (false, eval e env) :: starEach es env := by
  cases e <;> first | rfl | cases h
noncomputable def noStars : List PySem.Expr → Bool
  | [] => true
  | e :: es => !isStar e && noStars es
theorem star_all {pos : Pos} {env : Env} : ∀ {es : List PySem.Expr}, noStars es = true → (backTo pos (starEach es env)).all (!·.1) = true ∧ (backTo pos (starEach es env)).any (·.1) = false
  | [], _ => ⟨rfl, rfl⟩
  | e :: es, h => by
    have h1 : isStar e = false := by cases q : isStar e with | false => rfl | true => simp [noStars, q] at h
    have h2 : noStars es = true := by simp only [noStars, h1, Bool.not_false, Bool.true_and] at h; exact h
    rw [starEach_cons h1]
    obtain ⟨i1, i2⟩ := star_all (pos := pos) (env := env) h2
    unfold backTo at i1 i2 ⊢
    simp only [List.map_cons, List.all_cons, List.any_cons, i1, i2]
    exact ⟨rfl, rfl⟩
theorem any_star {pos : Pos} {es : List PySem.Expr} (h : noStars es = true) : ∀ env, (backTo pos (starEach es env)).any (·.1) = false := fun env => (star_all h).2
theorem form_star {pos : Pos} {es : List PySem.Expr} (h : noStars es = true) (hl : es.length < 20) : ∀ env, methodCallForm (es.length + ([] : List Keyword).length) (backTo pos (starEach es env)) (backToKw pos (keywordEach [] env)) = true := fun env => by
  unfold methodCallForm
  rw [(star_all h).1]
  show (true && true && decide (es.length + 0 + 0 < 30)) = true
  simp
  omega
end Mine
end F_Fn1
section F_Fn2
open PySem PySem.W PySem.Spec PySem.Calls PyProof.Rows
namespace Mine
example : ∀ P, (hd.heap_1 P, Challenge.rw_np0188_01).1 = hd.heap_1 P := by
  k_fill
  intro P; rfl
theorem g_number_of : GName "number_of" (.ref 75) := fun w => Or.inl (by unfold KF; k_is)
theorem k_number_of : KOk (.ref 75) := KOk.of fun w => by unfold KF; k_is
theorem g_octets_of : GName "octets_of" (.ref 80) := fun w => Or.inl (by unfold KF; k_is)
theorem k_octets_of : KOk (.ref 80) := KOk.of fun w => by unfold KF; k_is
theorem g_key_of : GName "key_of" (.ref 196) := fun w => Or.inl (by unfold KF; k_is)
theorem k_key_of : KOk (.ref 196) := KOk.of fun w => by unfold KF; k_is
theorem g_table_octets : GName "table_octets" (.ref 267) := fun w => Or.inl (by unfold KF; k_is)
theorem k_table_octets : KOk (.ref 267) := KOk.of fun w => by unfold KF; k_is
theorem g_table_of : GName "table_of" (.ref 272) := fun w => Or.inl (by unfold KF; k_is)
theorem k_table_of : KOk (.ref 272) := KOk.of fun w => by unfold KF; k_is
theorem g__law_key : GName "_law_key" (.ref 279) := fun w => Or.inl (by unfold KF; k_is)
theorem k__law_key : KOk (.ref 279) := KOk.of fun w => by unfold KF; k_is
theorem g__law_places : GName "_law_places" (.ref 286) := fun w => Or.inl (by unfold KF; k_is)
theorem k__law_places : KOk (.ref 286) := KOk.of fun w => by unfold KF; k_is
theorem g__law_number : GName "_law_number" (.ref 291) := fun w => Or.inl (by unfold KF; k_is)
theorem k__law_number : KOk (.ref 291) := KOk.of fun w => by unfold KF; k_is
theorem g__law_octets : GName "_law_octets" (.ref 296) := fun w => Or.inl (by unfold KF; k_is)
theorem k__law_octets : KOk (.ref 296) := KOk.of fun w => by unfold KF; k_is
theorem g__law_told : GName "_law_told" (.ref 303) := fun w => Or.inl (by unfold KF; k_is)
theorem k__law_told : KOk (.ref 303) := KOk.of fun w => by unfold KF; k_is
theorem g__law_deed : GName "_law_deed" (.ref 310) := fun w => Or.inl (by unfold KF; k_is)
theorem k__law_deed : KOk (.ref 310) := KOk.of fun w => by unfold KF; k_is
theorem g__law_is_same : GName "_law_is_same" (.ref 315) := fun w => Or.inl (by unfold KF; k_is)
theorem k__law_is_same : KOk (.ref 315) := KOk.of fun w => by unfold KF; k_is
theorem g_Sink : GName "Sink" (.ref 135) := fun w => Or.inl (by unfold KF; k_is)
theorem k_Sink : KOk (.ref 135) := KOk.of fun w => by unfold KF; k_is
theorem g_Cursor : GName "Cursor" (.ref 185) := fun w => Or.inl (by unfold KF; k_is)
theorem k_Cursor : KOk (.ref 185) := KOk.of fun w => by unfold KF; k_is
theorem g_Dedup : GName "Dedup" (.ref 256) := fun w => Or.inl (by unfold KF; k_is)
theorem k_Dedup : KOk (.ref 256) := KOk.of fun w => by unfold KF; k_is
theorem g_Corrupt : GName "Corrupt" (.ref 44) := fun w => Or.inl (by unfold KF; k_is)
theorem k_Corrupt : KOk (.ref 44) := KOk.of fun w => by unfold KF; k_is
theorem g_Missing : GName "Missing" (.ref 56) := fun w => Or.inl (by unfold KF; k_is)
theorem k_Missing : KOk (.ref 56) := KOk.of fun w => by unfold KF; k_is
theorem g_Misused : GName "Misused" (.ref 68) := fun w => Or.inl (by unfold KF; k_is)
theorem k_Misused : KOk (.ref 68) := KOk.of fun w => by unfold KF; k_is
theorem g_tuple : GName "tuple" (.type "tuple") := fun w => Or.inr ⟨by unfold KF; k_is, by first | rfl | boot_by_name, by decide⟩
theorem g_list : GName "list" (.type "list") := fun w => Or.inr ⟨by unfold KF; k_is, by first | rfl | boot_by_name, by decide⟩
theorem g_range : GName "range" (.type "range") := fun w => Or.inr ⟨by unfold KF; k_is, by first | rfl | boot_by_name, by decide⟩
theorem g_bytes : GName "bytes" (.type "bytes") := fun w => Or.inr ⟨by unfold KF; k_is, by first | rfl | boot_by_name, by decide⟩
theorem g_bytearray : GName "bytearray" (.type "bytearray") := fun w => Or.inr ⟨by unfold KF; k_is, by first | rfl | boot_by_name, by decide⟩
theorem g_enumerate : GName "enumerate" (.type "enumerate") := fun w => Or.inr ⟨by unfold KF; k_is, by first | rfl | boot_by_name, by decide⟩
theorem g_Exception : GName "Exception" (.type "Exception") := fun w => Or.inr ⟨by unfold KF; k_is, by first | rfl | boot_by_name, by decide⟩
theorem g_sum : GName "sum" (.builtin "sum") := fun w => Or.inr ⟨by unfold KF; k_is, by first | rfl | boot_by_name, by decide⟩
theorem g_len : GName "len" (.builtin "len") := fun w => Or.inr ⟨by unfold KF; k_is, by first | rfl | boot_by_name, by decide⟩
theorem g_sorted : GName "sorted" (.builtin "sorted") := fun w => Or.inr ⟨by unfold KF; k_is, by first | rfl | boot_by_name, by decide⟩
theorem ak_135_octets : ∀ w, AttrOk w 135 "octets" := fun w => ⟨by unfold KF; k_is, by unfold KF; k_is, none, by unfold KF; k_is, rfl⟩
theorem as_135_octets : ∀ w, AttrSet w 135 "octets" := fun w => ⟨by unfold KF; k_is, by unfold KF; k_is, by unfold KF; k_is, by unfold KF; k_is⟩
theorem ak_185_octets : ∀ w, AttrOk w 185 "octets" := fun w => ⟨by unfold KF; k_is, by unfold KF; k_is, none, by unfold KF; k_is, rfl⟩
theorem as_185_octets : ∀ w, AttrSet w 185 "octets" := fun w => ⟨by unfold KF; k_is, by unfold KF; k_is, by unfold KF; k_is, by unfold KF; k_is⟩
theorem ak_185_at : ∀ w, AttrOk w 185 "at" := fun w => ⟨by unfold KF; k_is, by unfold KF; k_is, none, by unfold KF; k_is, rfl⟩
theorem as_185_at : ∀ w, AttrSet w 185 "at" := fun w => ⟨by unfold KF; k_is, by unfold KF; k_is, by unfold KF; k_is, by unfold KF; k_is⟩
theorem ak_256_entries : ∀ w, AttrOk w 256 "entries" := fun w => ⟨by unfold KF; k_is, by unfold KF; k_is, none, by unfold KF; k_is, rfl⟩
theorem as_256_entries : ∀ w, AttrSet w 256 "entries" := fun w => ⟨by unfold KF; k_is, by unfold KF; k_is, by unfold KF; k_is, by unfold KF; k_is⟩
theorem ak_256_is_changed : ∀ w, AttrOk w 256 "is_changed" := fun w => ⟨by unfold KF; k_is, by unfold KF; k_is, none, by unfold KF; k_is, rfl⟩
theorem as_256_is_changed : ∀ w, AttrSet w 256 "is_changed" := fun w => ⟨by unfold KF; k_is, by unfold KF; k_is, by unfold KF; k_is, by unfold KF; k_is⟩
theorem mk_135_number : ∀ w, MethOk w 135 "number" 111 := fun w => ⟨by unfold KF; k_is, by unfold KF; k_is, by unfold KF; k_is⟩
theorem k_Sink_number : KOk (.ref 111) := KOk.of fun w => by unfold KF; k_is
theorem mk_135_whole : ∀ w, MethOk w 135 "whole" 132 := fun w => ⟨by unfold KF; k_is, by unfold KF; k_is, by unfold KF; k_is⟩
theorem k_Sink_whole : KOk (.ref 132) := KOk.of fun w => by unfold KF; k_is
theorem mk_185_left : ∀ w, MethOk w 185 "left" 161 := fun w => ⟨by unfold KF; k_is, by unfold KF; k_is, by unfold KF; k_is⟩
theorem k_Cursor_left : KOk (.ref 161) := KOk.of fun w => by unfold KF; k_is
theorem mk_185_take : ∀ w, MethOk w 185 "take" 168 := fun w => ⟨by unfold KF; k_is, by unfold KF; k_is, by unfold KF; k_is⟩
theorem k_Cursor_take : KOk (.ref 168) := KOk.of fun w => by unfold KF; k_is
theorem mk_185_number : ∀ w, MethOk w 185 "number" 175 := fun w => ⟨by unfold KF; k_is, by unfold KF; k_is, by unfold KF; k_is⟩
theorem k_Cursor_number : KOk (.ref 175) := KOk.of fun w => by unfold KF; k_is
theorem mk_256_find : ∀ w, MethOk w 256 "find" 217 := fun w => ⟨by unfold KF; k_is, by unfold KF; k_is, by unfold KF; k_is⟩
theorem k_Dedup_find : KOk (.ref 217) := KOk.of fun w => by unfold KF; k_is
theorem mk_256_wanted : ∀ w, MethOk w 256 "wanted" 224 := fun w => ⟨by unfold KF; k_is, by unfold KF; k_is, by unfold KF; k_is⟩
theorem k_Dedup_wanted : KOk (.ref 224) := KOk.of fun w => by unfold KF; k_is
theorem mk_256_add : ∀ w, MethOk w 256 "add" 229 := fun w => ⟨by unfold KF; k_is, by unfold KF; k_is, by unfold KF; k_is⟩
theorem k_Dedup_add : KOk (.ref 229) := KOk.of fun w => by unfold KF; k_is
theorem mk_256_drop : ∀ w, MethOk w 256 "drop" 236 := fun w => ⟨by unfold KF; k_is, by unfold KF; k_is, by unfold KF; k_is⟩
theorem k_Dedup_drop : KOk (.ref 236) := KOk.of fun w => by unfold KF; k_is
theorem mk_256_many : ∀ w, MethOk w 256 "many" 243 := fun w => ⟨by unfold KF; k_is, by unfold KF; k_is, by unfold KF; k_is⟩
theorem k_Dedup_many : KOk (.ref 243) := KOk.of fun w => by unfold KF; k_is
theorem mk_256_saved : ∀ w, MethOk w 256 "saved" 248 := fun w => ⟨by unfold KF; k_is, by unfold KF; k_is, by unfold KF; k_is⟩
theorem k_Dedup_saved : KOk (.ref 248) := KOk.of fun w => by unfold KF; k_is
theorem mk_256_rows : ∀ w, MethOk w 256 "rows" 253 := fun w => ⟨by unfold KF; k_is, by unfold KF; k_is, by unfold KF; k_is⟩
theorem k_Dedup_rows : KOk (.ref 253) := KOk.of fun w => by unfold KF; k_is
theorem mo_135 : ∀ w, MakeOk w 135 104 := fun w => ⟨by unfold KF; k_is, by unfold KF; k_is, by unfold KF; k_is⟩
theorem mo_185 : ∀ w, MakeOk w 185 154 := fun w => ⟨by unfold KF; k_is, by unfold KF; k_is, by unfold KF; k_is⟩
theorem mo_256 : ∀ w, MakeOk w 256 210 := fun w => ⟨by unfold KF; k_is, by unfold KF; k_is, by unfold KF; k_is⟩
theorem xc_44 : ∀ w, ExcCls w 44 := fun w => ⟨by rfl, by unfold KF; k_is, by unfold KF; k_is, by unfold KF; k_is⟩
theorem xc_56 : ∀ w, ExcCls w 56 := fun w => ⟨by rfl, by unfold KF; k_is, by unfold KF; k_is, by unfold KF; k_is⟩
theorem xc_68 : ∀ w, ExcCls w 68 := fun w => ⟨by rfl, by unfold KF; k_is, by unfold KF; k_is, by unfold KF; k_is⟩
theorem fn_28 : ∀ w, typeIn (KF w) (.ref 28) = some (.type "function") := fun w => by unfold KF; k_is
end Mine
end F_Fn2
section F_Fn3
open PySem PySem.W PySem.Spec PySem.Calls PyProof.Rows
namespace Mine
theorem len0 {C : List Value → Prop} (h : C []) (vs : List Value) (q : vs.length = 0) : C vs := by
  cases vs with
  | nil => exact h
  | cons a vs => exact absurd q (Nat.succ_ne_zero _)
theorem lenS {n : Nat} {C : List Value → Prop} (h : ∀ (a : Value) (vs : List Value), vs.length = n → C (a :: vs)) (vs : List Value) (q : vs.length = n + 1) : C vs := by
  cases vs with
  | nil => exact absurd q.symm (Nat.succ_ne_zero _)
  | cons a vs => exact h a vs (Nat.succ.inj q)
structure WE (nk : Str → Option NK) (n c : Nat) (e : Expr) (P : EvP) : Prop where
  h : SndE nk n c e P
structure WEs (nk : Str → Option NK) (n c : Nat) (pos : Pos) (es : List Expr) (P : EvsP) : Prop where
  h : SndEs nk n c pos es P
  s : noStars es = true
structure WB (nk : Str → Option NK) (n c : Nat) (e : Expr) (P : BvP) : Prop where
  h : SndB nk n c e P
structure WP (nk : Str → Option NK) (n c : Nat) (e : Option Expr) (P : Option EvP) : Prop where
  h : SndP nk n c e P
structure WS (nk : Str → Option NK) (n c : Nat) (e : Stmt) (P : SP) : Prop where
  h : SndS nk n c e P
structure WSs (nk : Str → Option NK) (n c : Nat) (e : List Stmt) (P : SP) : Prop where
  h : SndSs nk n c e P
structure WER (nk : Str → Option NK) (n c : Nat) (e : Expr) (P : EvP) : Prop where
  h : SndER nk n c e P
structure WSR (nk : Str → Option NK) (n c : Nat) (e : Stmt) (P : SP) : Prop where
  h : SndSR nk n c e P
structure WSsR (nk : Str → Option NK) (n c : Nat) (e : List Stmt) (P : SP) : Prop where
  h : SndSsR nk n c e P
section
variable {nk : Str → Option NK} {n c : Nat}
theorem WE.int {i k pos} : WE nk n c (.Constant (.int i) k pos) (pInt i) := ⟨SndE.int⟩
theorem WE.str {x k pos} : WE nk n c (.Constant (.str x) k pos) (pStr x) := ⟨SndE.str⟩
theorem WE.none {k pos} : WE nk n c (.Constant .none k pos) pNone := ⟨SndE.none⟩
theorem WE.bool {b k pos} : WE nk n c (.Constant (.bool b) k pos) (pBool b) := ⟨SndE.bool⟩
theorem WE.bytes {b k pos} : WE nk n c (.Constant (.bytes b) k pos) (pBytes b.toArray) := ⟨SndE.bytes⟩
theorem WE.loc {x pos} (hx : nk x = some .loc) (hd : (x == ("__debug__" : Str)) = false) : WE nk n c (.Name x pos) (pLoc x) := ⟨SndE.loc hx hd⟩
theorem WE.cel {x pos} (hx : nk x = some .cel) (hd : (x == ("__debug__" : Str)) = false) (hd' : (x == ("__classdict__" : Str)) = false) : WE nk n c (.Name x pos) (pCel x) := ⟨SndE.cel (.inl hx) hd hd'⟩
theorem WE.fre {x pos} (hx : nk x = some .fre) (hd : (x == ("__debug__" : Str)) = false) (hd' : (x == ("__classdict__" : Str)) = false) : WE nk n c (.Name x pos) (pCel x) := ⟨SndE.cel (.inr hx) hd hd'⟩
theorem WE.bin {l r op pos P1 P2} (H1 : WE nk n c l P1) (H2 : WE nk n c r P2) : WE nk n c (.BinOp l op r pos) (pBin op P1 P2) := ⟨SndE.bin H1.h H2.h⟩
theorem WE.cmp {l r op pos P1 P2} (H1 : WE nk n c l P1) (H2 : WE nk n c r P2) (hm : behindInMarks op r = false) : WE nk n c (.Compare l [op] [r] pos) (pCmp op P1 P2) := ⟨SndE.cmp H1.h H2.h hm⟩
theorem WE.ifexp {t b o pos B P1 P2} (H : WB nk n c t B) (H1 : WE nk n c b P1) (H2 : WE nk n c o P2) : WE nk n c (.IfExp t b o pos) (pIf B P1 P2) := ⟨SndE.ifexp H.h H1.h H2.h⟩
theorem WEs.nil {pos} : WEs nk n c pos [] pNil := ⟨SndEs.nil, rfl⟩
theorem WEs.cons {pos e es P Ps} (H : WE nk n c e P) (Hs : WEs nk n c pos es Ps) (hs : isStar e = false) : WEs nk n c pos (e :: es) (pCons P Ps) := ⟨SndEs.cons H.h Hs.h fun _ => starEach_cons hs, by simp [noStars, hs, Hs.s]⟩
theorem WE.tuple {pos k es Ps} (Hs : WEs nk n c pos es Ps) : WE nk n c (.Tuple es k pos) (pTup Ps) := ⟨SndE.tuple Hs.h⟩
theorem WE.list {pos es Ps} (Hs : WEs nk n c pos es Ps) : WE nk n c (.List es pos) (pList Ps) := ⟨SndE.list Hs.h⟩
theorem WE.dict0 {pos} : WE nk n c (.Dict [] [] pos) pDict0 := ⟨SndE.dict0⟩
theorem WE.item {v i pos P1 P2} (H1 : WE nk n c v P1) (H2 : WE nk n c i P2) : WE nk n c (.Subscript v i pos) (pItem P1 P2) := ⟨SndE.item H1.h H2.h⟩
theorem WP.none : WP nk n c none none := ⟨.none⟩
theorem WP.some {e P} (H : WE nk n c e P) : WP nk n c (some e) (some P) := ⟨.some H.h⟩
theorem WE.slice {v lo hi pos pos' P Pl Ph} (H : WE nk n c v P) (Hl : WP nk n c lo Pl) (Hh : WP nk n c hi Ph) : WE nk n c (.Subscript v (.Slice lo hi Option.none pos') pos) (pSlice P Pl Ph) := ⟨SndE.slice H.h Hl.h Hh.h⟩
theorem WE.attr {v x pos C P} (H : WE nk n c v P) (hok : ∀ w, AttrOk w C x) (he : ∀ env, eval (.Attribute v x pos) env = (do
      let o ← eval v env
      standAt pos.atName
      let r ← holding [o] (getAttr o x true)
      letTemporaryGo v o r
      pure r)) : WE nk n c (.Attribute v x pos) (pAttr C x P) := ⟨SndE.attr H.h hok he⟩
theorem WE.call {x v p pos args Ps PF} (hx : nk x = some .glb) (hg : GName x v) (hd : (x == ("__debug__" : Str)) = false) (hF : SndF n v PF) (hk : KOk v) (Hs : WEs nk n c pos args Ps) :
    WE nk n c (.Call (.Name x p) args [] pos) (pCall PF Ps) := ⟨SndE.call hx hg hd hF hk Hs.h (any_star Hs.s)⟩
theorem WE.meth {o x apos pos args C f F Po Ps} (Ho : WE nk n c o Po) (Hs : WEs nk n c pos args Ps) (hok : ∀ w, MethOk w C x f) (hF : SndF n (.ref f) F) (hk : KOk (.ref f))
    (hbase : ∀ env, attributeBase o x env (eval o env) = eval o env) (hl : args.length < 20) (hline : (apos.endLine == pos.line) = true) :
    WE nk n c (.Call (.Attribute o x apos) args [] pos) (pMeth C x F Po Ps) := ⟨SndE.meth Ho.h Hs.h hok hF hk (any_star Hs.s) hbase (form_star Hs.s hl) hline⟩
theorem WE.methB {o x apos pos args T id F Po Ps} (Ho : WE nk n c o Po) (Hs : WEs nk n c pos args Ps) (hF : SndF n (.builtin id) F) (pa : PlainAttrs T) (slot : Slot T x id) (hty : typeOf (.builtin id) = pure (.type "method_descriptor"))
    (hbase : ∀ env, attributeBase o x env (eval o env) = eval o env) (hl : args.length < 20) (hline : (apos.endLine == pos.line) = true) :
    WE nk n c (.Call (.Attribute o x apos) args [] pos) (pMethB T F Po Ps) := ⟨SndE.methB Ho.h Hs.h hF pa slot hty (any_star Hs.s) hbase (form_star Hs.s hl) hline⟩
theorem WE.excInit {p apos pos args Ps} (hx : nk "Exception" = some .glb) (Hs : WEs nk n c pos args Ps) (hl : args.length < 20) (hline : (apos.endLine == pos.line) = true) :
    WE nk n c (.Call (.Attribute (.Name "Exception" p) "__init__" apos) args [] pos) (pMethT fExcInit Ps) := ⟨SndE.methT hx g_Exception (by decide) Hs.h SndF.excInit rfl rfl rfl (by decide +kernel) (any_star Hs.s) (form_star Hs.s hl) hline⟩
theorem WE.comp {t : Tgt} {tgt it elt : Expr} {PI P' : EvP} {scope : Scope} {pos : Pos} (hkind : scope.kind = .function) (hcell : ∀ y ∈ scope.names, y.2 ≠ .cell) (hnames : ∀ x ∈ scope.names, x.2 = .local → scope.names.lookup x.1 = some .local)
    (ht : TgtOk (nkOf scope.names) t tgt) (H : WE nk n c it PI) (HE : WE (nkOf scope.names) n c elt P') (hfs : ∀ env x, foldedSetIterable it env x = pure x) :
    WE nk n c (.ListComp elt [⟨tgt, it, [], 0⟩] scope pos) (pComp t scope.names PI P') := ⟨SndE.comp hkind hcell hnames ht H.h HE.h hfs⟩
theorem WE.compEnum {ks : List (NK × Str)} {es : List Expr} {kk : Nat} {px np cpos pos : Pos} {args : List Expr} {elt : Expr} {Ps : EvsP} {P' : EvP} {scope : Scope} (hkind : scope.kind = .function) (hcell : ∀ y ∈ scope.names, y.2 ≠ .cell) (hnames : ∀ x ∈ scope.names, x.2 = .local → scope.names.lookup x.1 = some .local)
    (ht : TgtOk (nkOf scope.names) (.tp ks) (.Tuple es kk px)) (hx : nk "enumerate" = some .glb) (Hs : WEs nk n c cpos args Ps) (HE : WE (nkOf scope.names) n c elt P')
    (hfs : ∀ env x, foldedSetIterable (.Call (.Name "enumerate" np) args [] cpos) env x = pure x) :
    WE nk n c (.ListComp elt [⟨.Tuple es kk px, .Call (.Name "enumerate" np) args [] cpos, [], 0⟩] scope pos) (pCompE ks scope.names Ps P') := ⟨SndE.compEnum hkind hcell hnames ht hx g_enumerate Hs.h (any_star Hs.s) HE.h hfs⟩
theorem WE.callL {x : Str} {p pos} (hx : nk x = some .loc) (hd : (x == ("__debug__" : Str)) = false) : WE nk (n + 1) c (.Call (.Name x p) [] [] pos) (pCallL n x) := ⟨SndE.callL hx hd⟩
theorem WB.cmp {l r op pos P1 P2} (H1 : WE nk n c l P1) (H2 : WE nk n c r P2) (hm : behindInMarks op r = false) : WB nk n c (.Compare l [op] [r] pos) (bCmp op P1 P2) := ⟨SndB.cmp H1.h H2.h hm⟩
theorem WB.chain {l r r' op op' pos P1 P2 P3} (H1 : WE nk n c l P1) (H2 : WE nk n c r P2) (H3 : WE nk n c r' P3) (hm : lastMarks [op, op'] [r, r'] = false) : WB nk n c (.Compare l [op, op'] [r, r'] pos) (bChain op op' P1 P2 P3) := ⟨SndB.chain H1.h H2.h H3.h hm⟩
theorem WB.not_ {e pos P} (H : WB nk n c e P) : WB nk n c (.UnaryOp .Not e pos) (bNot P) := ⟨SndB.not_ H.h⟩
theorem WB.and_ {x y pos P1 P2} (H1 : WB nk n c x P1) (H2 : WB nk n c y P2) : WB nk n c (.BoolOp .And [x, y] pos) (bAnd P1 P2) := ⟨SndB.and_ H1.h H2.h⟩
theorem WB.or_ {x y pos P1 P2} (H1 : WB nk n c x P1) (H2 : WB nk n c y P2) : WB nk n c (.BoolOp .Or [x, y] pos) (bOr P1 P2) := ⟨SndB.or_ H1.h H2.h⟩
theorem WB.or3 {x y z pos P1 P2 P3} (H1 : WB nk n c x P1) (H2 : WB nk n c y P2) (H3 : WB nk n c z P3) : WB nk n c (.BoolOp .Or [x, y, z] pos) (bOr P1 (bOr P2 P3)) := ⟨SndB.or3 H1.h H2.h H3.h⟩
theorem WB.val {e P} (H : WE nk n c e P) (he : ∀ env whole, isTrue e env whole = (do let v ← whole; standAt e.pos; holding [v] (truthy v))) : WB nk n c e (bVal P) := ⟨SndB.val H.h he⟩
theorem WS.asg {k x px e pos P} (H : WE nk n c e P) (hx : nk x = some k) (hs : ∀ env, swapsWith e (some (.Name x px)) pos.line env = pure false) : WS nk n c (.Assign [.Name x px] e pos) (sAsg k x P) := ⟨SndS.asg H.h hx hs⟩
theorem WS.asgT {ks es k px e pos P} (H : WE nk n c e P) (he : NmT es ks) (hk : KsOk nk ks) (hs : ∀ env, swapsWithSole [.Tuple es k px] e pos.line env = pure false) (hw : ∀ X : Cx, Fm nk n c X → swappedStores [.Tuple es k px] e X.env = pure none) :
    WS nk n c (.Assign [.Tuple es k px] e pos) (sAsgT ks P) := ⟨SndS.asgT H.h he hk hs hw⟩
theorem WS.swap {ks es k px e pos P} (H : WE nk n c e P) (hk : KsOk nk ks) (hs : ∀ env, swapsWithSole [.Tuple es k px] e pos.line env = pure false) (hw : ∀ X : Cx, Fm nk n c X → swappedStores [.Tuple es k px] e X.env = pure (some (ks.map (·.2)))) :
    WS nk n c (.Assign [.Tuple es k px] e pos) (sSwap ks P) := ⟨SndS.swap H.h hk hs hw⟩
theorem WS.asgC {t : Tgt} {tgt it elt : Expr} {PI P' : EvP} {scope : Scope} {pos px spos : Pos} {k : NK} {x : Str} (hkind : scope.kind = .function) (hcell : ∀ y ∈ scope.names, y.2 ≠ .cell) (hnames : ∀ x ∈ scope.names, x.2 = .local → scope.names.lookup x.1 = some .local)
    (ht : TgtOk (nkOf scope.names) t tgt) (H : WE nk n c it PI) (HE : WE (nkOf scope.names) n c elt P') (hfs : ∀ env x, foldedSetIterable it env x = pure x) (hx : nk x = some k)
    (hsw : ∀ X : Cx, Fm nk n c X → swapsWith (.ListComp elt [⟨tgt, it, [], 0⟩] scope pos) (some (.Name x px)) spos.line X.env = pure true) :
    WS nk n c (.Assign [.Name x px] (.ListComp elt [⟨tgt, it, [], 0⟩] scope pos) spos) (sAsg k x (pComp t scope.names PI P')) := ⟨SndS.asgC hkind hcell hnames ht H.h HE.h hfs hx hsw⟩
theorem WS.asgA {x e o pos pos' C P Po} (H : WE nk n c e P) (Ho : WE nk n c o Po) (hok : ∀ w, AttrSet w C x) (hs : ∀ env, swapsWith e (some (.Attribute o x pos')) pos.line env = pure false) : WS nk n c (.Assign [.Attribute o x pos'] e pos) (sAsgA C x P Po) := ⟨SndS.asgA H.h Ho.h hok hs⟩
theorem WS.asgI {e o i pos pos' P Po Pi} (H : WE nk n c e P) (Ho : WE nk n c o Po) (Hi : WE nk n c i Pi) (hs : ∀ env, swapsWith e (some (.Subscript o i pos')) pos.line env = pure false) : WS nk n c (.Assign [.Subscript o i pos'] e pos) (sAsgI P Po Pi) := ⟨SndS.asgI H.h Ho.h Hi.h hs⟩
theorem WS.asgX {x : Str} {e o pos pos' P Po} (H : WE nk n c e P) (Ho : WE nk n c o Po) (hs : ∀ env, swapsWith e (some (.Attribute o x pos')) pos.line env = pure false) : WS nk n c (.Assign [.Attribute o x pos'] e pos) (sAsgX x P Po) := ⟨SndS.asgX H.h Ho.h hs⟩
theorem WS.ret {e pos P} (H : WE nk n c e P) : WS nk n c (.Return (some e) pos) (sRet P) := ⟨SndS.ret H.h⟩
theorem WS.expr {e pos P} (H : WE nk n c e P) (hs : ∀ env, swapsWith e none pos.line env = pure false) : WS nk n c (.Expr e pos) (sExpr P) := ⟨SndS.expr H.h hs⟩
theorem WS.if_ {t b o pos B P1 P2} (H : WB nk n c t B) (H1 : WSs nk n c b P1) (H2 : WSs nk n c o P2) : WS nk n c (.If t b o pos) (sIf B P1 P2) := ⟨SndS.if_ H.h H1.h H2.h⟩
theorem WS.for_ {t : Tgt} {tgt it : Expr} {body : List Stmt} {P : EvP} {B : SP} {pos : Pos} (ht : TgtOk nk t tgt) (H : WE nk n c it P) (HB : WSs nk n c body B) (hfs : ∀ env x, foldedSetIterable it env x = pure x) : WS nk n c (.For tgt it body [] pos) (sFor t P B) := ⟨SndS.for_ ht H.h HB.h hfs⟩
theorem WS.raise {e pos P} (H : WE nk n c e P) : WS nk n c (.Raise (some e) none pos) (sRaise P) := ⟨SndS.raise H.h⟩
theorem WS.try_ {body : List Stmt} {h0 : ExceptHandler} {hs : List ExceptHandler} {pos : Pos} {tab : List (Addr × Str)} {B : SP} (HB : WSs nk n c body B) (hh : ∀ C m, tab.lookup C = some m → HandOk nk C (h0 :: hs) m ∧ (∀ w, isExcC (KF w) C = true) ∧ C ≠ 31) :
    WS nk n c (.Try body (h0 :: hs) [] [] pos) (sTry tab B) := ⟨SndS.try_ HB.h hh⟩
theorem WSs.nil : WSs nk n c [] sNil := ⟨SndSs.nil⟩
theorem WSs.cons {st sts P1 P2} (H1 : WS nk n c st P1) (H2 : WSs nk n c sts P2) : WSs nk n c (st :: sts) (sSeq P1 P2) := ⟨SndSs.cons H1.h H2.h⟩
theorem WS.r {e P} (H : WS nk n c e P) : WSR nk n c e P := ⟨H.h.r⟩
theorem WSs.r {e P} (H : WSs nk n c e P) : WSsR nk n c e P := ⟨H.h.r⟩
theorem WER.call {x v p pos args Ps PF} (hx : nk x = some .glb) (hg : GName x v) (hd : (x == ("__debug__" : Str)) = false) (hF : SndFR n v PF) (hk : KOk v) (Hs : WEs nk n c pos args Ps) :
    WER nk n c (.Call (.Name x p) args [] pos) (pCall PF Ps) := ⟨SndER.call hx hg hd hF hk Hs.h (any_star Hs.s)⟩
theorem WER.meth {o x apos pos args C f F Po Ps} (Ho : WE nk n c o Po) (Hs : WEs nk n c pos args Ps) (hok : ∀ w, MethOk w C x f) (hF : SndFR n (.ref f) F) (hk : KOk (.ref f))
    (hbase : ∀ env, attributeBase o x env (eval o env) = eval o env) (hl : args.length < 20) (hline : (apos.endLine == pos.line) = true) :
    WER nk n c (.Call (.Attribute o x apos) args [] pos) (pMeth C x F Po Ps) := ⟨SndER.meth Ho.h Hs.h hok hF hk (any_star Hs.s) hbase (form_star Hs.s hl) hline⟩
theorem WER.methB {o x apos pos args T id F Po Ps} (Ho : WE nk n c o Po) (Hs : WEs nk n c pos args Ps) (hF : SndFR n (.builtin id) F) (pa : PlainAttrs T) (slot : Slot T x id) (hty : typeOf (.builtin id) = pure (.type "method_descriptor"))
    (hbase : ∀ env, attributeBase o x env (eval o env) = eval o env) (hl : args.length < 20) (hline : (apos.endLine == pos.line) = true) :
    WER nk n c (.Call (.Attribute o x apos) args [] pos) (pMethB T F Po Ps) := ⟨SndER.methB Ho.h Hs.h hF pa slot hty (any_star Hs.s) hbase (form_star Hs.s hl) hline⟩
theorem WSR.asg {k x px e pos P} (H : WER nk n c e P) (hx : nk x = some k) (hs : ∀ env, swapsWith e (some (.Name x px)) pos.line env = pure false) : WSR nk n c (.Assign [.Name x px] e pos) (sAsg k x P) := ⟨SndSR.asg H.h hx hs⟩
theorem WSR.asgA {x e o pos pos' C P Po} (H : WER nk n c e P) (Ho : WE nk n c o Po) (hok : ∀ w, AttrSet w C x) (hs : ∀ env, swapsWith e (some (.Attribute o x pos')) pos.line env = pure false) : WSR nk n c (.Assign [.Attribute o x pos'] e pos) (sAsgA C x P Po) := ⟨SndSR.asgA H.h Ho.h hok hs⟩
theorem WSR.expr {e pos P} (H : WER nk n c e P) (hs : ∀ env, swapsWith e none pos.line env = pure false) : WSR nk n c (.Expr e pos) (sExpr P) := ⟨SndSR.expr H.h hs⟩
theorem WSR.for_ {t : Tgt} {tgt it : Expr} {body : List Stmt} {P : EvP} {B : SP} {pos : Pos} (ht : TgtOk nk t tgt) (H : WE nk n c it P) (HB : WSsR nk n c body B) (hfs : ∀ env x, foldedSetIterable it env x = pure x) : WSR nk n c (.For tgt it body [] pos) (sFor t P B) := ⟨SndSR.for_ ht H.h HB.h hfs⟩
theorem WSsR.cons {st sts P1 P2} (H1 : WSR nk n c st P1) (H2 : WSsR nk n c sts P2) : WSsR nk n c (st :: sts) (sSeq P1 P2) := ⟨SndSsR.cons H1.h H2.h⟩
end
theorem mkF {f : Addr} {qual : Str} {params : Arguments} {body : List Stmt} {scope : Scope} {bs : List D → Option (List (Str × D))} {cd : Option Addr} {n : Nat} (R : { P : SP // WSs (nkD scope.names cd (qual ++ ".<locals>.")) n 8 body P }) (Df : DefAt f qual params body scope bs cd) : SndFc (n + 1) (.ref f) (pDef scope.names bs R.1) := SndFc.def_ Df (Nat.le_refl _) R.2.h
theorem mkFR {f : Addr} {qual : Str} {params : Arguments} {body : List Stmt} {scope : Scope} {bs : List D → Option (List (Str × D))} {cd : Option Addr} {n : Nat} (R : { P : SP // WSsR (nkD scope.names cd (qual ++ ".<locals>.")) n 8 body P }) (Df : DefAt f qual params body scope bs cd) : SndFcR (n + 1) (.ref f) (pDef scope.names bs R.1) := SndFcR.def_ Df (Nat.le_refl _) R.2.h
theorem nst {e : Expr} (h : isStar e = false) : (match (generalizing := false) e with
  | .Starred .. => true
  | _ => false) = false := by
  cases e <;> first | rfl | exact Bool.noConfusion (show true = false from h)
theorem pos_name {x : Str} {p : Pos} : (Expr.Name x p).pos = p := rfl
theorem pos_comp {a : Expr} {gs : List Comprehension} {sc : Scope} {p : Pos} : (Expr.ListComp a gs sc p).pos = p := rfl
theorem blk {X : Cx} {nk n c} (fm : Fm nk n c X) : X.env.blockKind = .function := by simp [Env.blockKind, fm.kind]
theorem star_in {es : List Expr} (h : noStars es = true) : ∀ e ∈ es, isStar e = false := by
  induction es with
  | nil => intro e he; cases he
  | cons a es ih =>
    have h1 : isStar a = false := by cases q : isStar a with | false => rfl | true => simp [noStars, q] at h
    have h2 : noStars es = true := by simp only [noStars, h1, Bool.not_false, Bool.true_and] at h; exact h
    intro e he
    rcases List.mem_cons.mp he with rfl | he
    · exact h1
    · exact ih h2 e he
theorem star_any {f : Expr → Bool} {es : List Expr} (h : noStars es = true) (hf : ∀ e, isStar e = false → f e = false) : ¬ (es.any f = true) := by
  rw [Bool.not_eq_true, List.any_eq_false]
  exact fun e he => Bool.eq_false_iff.mp (hf e (star_in h e he))
theorem fm_short {f : Expr → Option Str} {a : Expr} {l : List Expr} {n : Nat} (h : f a = none) (hn : l.length + 1 = n) {b : Bool} : ((List.filterMap f (a :: l)).length != n || b) = true := by
  rw [List.filterMap_cons_none h, Bool.or_eq_true]
  refine .inl (bne_iff_ne.mpr fun q => ?_)
  have := List.length_filterMap_le f l
  omega
theorem swN {X : Cx} {nk n c} (fm : Fm nk n c X) {x : Str} {p px : Pos} {k k' : Nat} {ts es : List Expr} {pv : Pos} (hx : nk x = some .cel) (hs : noStars es = true) (hl : (ts.length + 1 == 2 || ts.length + 1 == 3) = true) (he : es.length = ts.length + 1) :
    swappedStores [.Tuple (.Name x p :: ts) k px] (.Tuple es k' pv) X.env = pure none := by
  have h1' : X.env.kindOf x = some NameKind.cell := fm.names x _ hx
  unfold swappedStores
  dsimp only
  rw [if_neg (by rw [blk fm, List.length_cons, hl, he]; simp), if_neg (star_any hs ?st), if_pos (fm_short (by
    show (if (X.env.kindOf x == some NameKind.local && _) = true then some x else none) = none
    rw [h1']; rfl) List.length_cons.symm)]
  exact fun e he => nst he
theorem swN1 {X : Cx} {nk n c} (fm : Fm nk n c X) {x y : Str} {p q px : Pos} {k k' : Nat} {a b : Expr} {pv : Pos} (hx : nk x = some .cel) (hs : noStars [a, b] = true) :
    swappedStores [.Tuple [.Name x p, .Name y q] k px] (.Tuple [a, b] k' pv) X.env = pure none := swN fm hx hs rfl rfl
theorem swN3 {X : Cx} {nk n c} (fm : Fm nk n c X) {x y z : Str} {p q r px : Pos} {k k' : Nat} {a b d : Expr} {pv : Pos} (hx : nk x = some .cel) (hs : noStars [a, b, d] = true) :
    swappedStores [.Tuple [.Name x p, .Name y q, .Name z r] k px] (.Tuple [a, b, d] k' pv) X.env = pure none := swN fm hx hs rfl rfl
theorem fm_two {f : Expr → Option Str} {a b : Expr} {x y : Str} (h1 : f a = some x) (h2 : f b = some y) : List.filterMap f [a, b] = [x, y] := by
  rw [List.filterMap_cons_some h1, List.filterMap_cons_some h2]; rfl
theorem sw2 {X : Cx} {nk n c} (fm : Fm nk n c X) {x y : Str} {p q px : Pos} {k k' : Nat} {a b : Expr} {pv : Pos} (hx : nk x = some .loc) (hy : nk y = some .loc) (hn : (x == y) = false) (hl : (p.line == q.line) = true) (hs : noStars [a, b] = true)
    (hc : [a, b].all (constantsAlone 8) = false) (hf : [a, b].all (foldedForSure 8) = false) : swappedStores [.Tuple [.Name x p, .Name y q] k px] (.Tuple [a, b] k' pv) X.env = pure (some ([(NK.loc, x), (NK.loc, y)].map (·.2))) := by
  have h1' : X.env.kindOf x = some NameKind.local := fm.names x _ hx
  have h2' : X.env.kindOf y = some NameKind.local := fm.names y _ hy
  have hn' : y ≠ x := fun q => by rw [q] at hn; simp at hn
  have hl' : q.line = p.line := (beq_iff_eq.mp hl).symm
  unfold swappedStores
  dsimp only
  rw [if_neg (by rw [blk fm]; simp), if_neg (star_any hs ?st), fm_two (x := x) (y := y) (by
    show (if (X.env.kindOf x == some NameKind.local && p.line == p.line) = true then some x else none) = some x
    rw [h1', if_pos (by simp)]) (by
    show (if (X.env.kindOf y == some NameKind.local && q.line == p.line) = true then some y else none) = some y
    rw [h2', hl', if_pos (by simp)]), hf, hc]
  · have he : List.eraseDups [x, y] = [x, y] := by simp [List.eraseDups_cons, hn']
    rw [he]; rfl
  · exact fun e he => nst he
theorem sc1 {X : Cx} {nk n c} (fm : Fm nk n c X) {x : Str} {p pos : Pos} {elt gs scope} {ln : Nat} (hx : nk x = some .loc) (hl : p.line = pos.line) (hn : (scope.names.any fun (n, k) => n == x && (k == .local || k == .cell)) = false) :
    swapsWith (.ListComp elt gs scope pos) (some (.Name x p)) ln X.env = pure true := by
  have h1' : X.env.kindOf x = some NameKind.local := fm.names x _ hx
  unfold swapsWith
  dsimp only
  rw [blk fm, h1', hn]
  simp [pos_name, pos_comp, hl]
structure LamOk (n : Nat) (o : AObj) (cl : List (Str × Addr)) (c : Addr) (q : Str) (P' : EvP) : Prop where
  h : ∃ body sc, o = .lam body sc cl c q ∧ sc.isCoroutine = false ∧ sc.isGenerator = false ∧ sc.kind = .function ∧ (∀ x ∈ sc.names, x.2 ≠ .cell) ∧ SndE (nkOf sc.names) n 8 body P'
noncomputable def pLamP (n : Nat) (P : Addr) (q0 : Str) (names : List (Str × NameKind)) (pos : Pos) (P' : EvP) : EvP := fun ℓ σ Q E => ∃ ps cl, σ P = some (.tab ps) ∧ cloOf ℓ.cel names [] = some cl ∧ match among pos ps with
  | some c' => ∀ f o, σ f = none → LamOk n o cl c' (q0 ++ "<lambda>") P' → Q (.ref f) (σ.put f o)
  | none => ∀ f c' o, σ f = none → σ c' = none → c' ≠ f → LamOk n o cl c' (q0 ++ "<lambda>") P' → Q (.ref f) (((σ.put P (.tab (ps ++ [((pos.line : Int), (pos.col : Int), c')]))).put c' (.code (q0 ++ "<lambda>"))).put f o)
theorem WE.lamP {nk : Str → Option NK} {n c m : Nat} {cA P : Addr} {q0 : Str} {body : Expr} {scope : Scope} {pos : Pos} {P' : EvP} (hc : nk codeName = some (.cod cA q0)) (hm : (cA, P) ∈ codeTabs)
    (h1 : scope.isCoroutine = false) (h2 : scope.isGenerator = false) (h3 : scope.kind = .function) (h4 : ∀ x ∈ scope.names, x.2 ≠ .cell) (HB : WE (nkOf scope.names) m 8 body P') :
    WE nk n c (.Lambda noParams body scope pos) (pLamP m P q0 scope.names pos P') := ⟨fun X ℓ σ s Q E fm dy hp => by
  refine SndE.lam hc hm X ℓ σ s Q E fm dy ?_
  obtain ⟨ps, cl, a1, a2, a3⟩ := hp
  refine ⟨ps, cl, a1, a2, ?_⟩
  revert a3
  cases among pos ps with
  | some c' => exact fun a3 f hf => a3 f _ hf ⟨_, _, rfl, h1, h2, h3, h4, HB.h⟩
  | none => exact fun a3 f c' hf hc' hn => a3 f c' _ hf hc' hn ⟨_, _, rfl, h1, h2, h3, h4, HB.h⟩⟩
theorem fLam_ok {n : Nat} {f c : Addr} {o : AObj} {cl : List (Str × Addr)} {q : Str} {P' : EvP} {σ : St} {Q : D → St → Prop} {E : Addr → St → Prop} (L : LamOk n o cl c q P') (hf : σ f = some o) (hc : σ c = some (.code q)) (hp : P' ⟨fun _ => none, cl⟩ σ Q E) : fLam n f [] σ Q E := by
  obtain ⟨body, sc, rfl, a1, a2, a3, a4, a5⟩ := L.h
  exact ⟨rfl, body, sc, cl, c, q, hf, hc, a1, a2, a3, a4, P', a5, hp⟩
noncomputable def told : List (Addr × Str) := [(56, "missing"), (68, "misused"), (44, "corrupt")]
theorem told_cases {C : Addr} {m : Str} (h : told.lookup C = some m) : (C = 56 ∧ m = "missing") ∨ (C = 68 ∧ m = "misused") ∨ (C = 44 ∧ m = "corrupt") := by
  unfold told at h
  simp only [List.lookup_cons] at h
  split at h
  · rename_i q; cases h; exact .inl ⟨beq_iff_eq.mp q, rfl⟩
  · split at h
    · rename_i q; cases h; exact .inr (.inl ⟨beq_iff_eq.mp q, rfl⟩)
    · split at h
      · rename_i q; cases h; exact .inr (.inr ⟨beq_iff_eq.mp q, rfl⟩)
      · cases h
end Mine
end F_Fn3
section F_FnA
open PySem PySem.W PySem.Spec PySem.Calls PyProof.Rows
namespace Mine
set_option maxHeartbeats 400000
noncomputable def R_75 : { P : SP // WSs (nkD Fs_75.names none (Fq_75 ++ ".<locals>.")) 0 8 Fb_75 P } := ⟨_,
  (WSs.cons (WS.ret (WE.call rfl g_sum (by decide) SndF.sum (KOk.bi _) (WEs.cons (WE.compEnum rfl (by decide) (by decide) (.tp (.cons (.cons .nil)) (KsOk.cons rfl (KsOk.cons rfl KsOk.nil))) rfl (WEs.cons (WE.loc rfl (by decide)) WEs.nil rfl) (WE.bin (WE.loc rfl (by decide)) (WE.bin WE.int (WE.loc rfl (by decide)))) fun _ _ => rfl) WEs.nil rfl)))
    WSs.nil)⟩
theorem D_75 : DefAt 75 Fq_75 Fp_75 Fb_75 Fs_75 (bsPlain ["octets"]) none where
  at_ := fun w => ⟨_, _, _, _, _, _, _, _, _, _, _, rfl, by unfold KF; k_is, (fun _ e => by cases e), fun s vs ds b K rs h => bsPlain_ok (w := w) (by exact lenS fun _ => len0 (BindsTo.of_eq rfl)) rs h⟩
  co := rfl
  gen := rfl
  kind := rfl
  nd := by decide
  kinds := bsPlain_kinds (by decide)
@[irreducible] noncomputable def P_75 : FP := pDef Fs_75.names (bsPlain ["octets"]) R_75.1
theorem F_75 : SndFc 1 (.ref 75) P_75 := by unfold P_75; exact mkF R_75 D_75
noncomputable def R_196 : { P : SP // WSs (nkD Fs_196.names none (Fq_196 ++ ".<locals>.")) 0 8 Fb_196 P } := ⟨_,
  (WSs.cons (WS.ret (WE.tuple (WEs.cons (WE.call rfl g_tuple (by decide) SndF.tuple (KOk.ty _) (WEs.cons (WE.loc rfl (by decide)) WEs.nil rfl)) (WEs.cons (WE.loc rfl (by decide)) (WEs.cons (WE.loc rfl (by decide)) (WEs.cons (WE.loc rfl (by decide)) WEs.nil rfl) rfl) rfl) rfl)))
    WSs.nil)⟩
theorem D_196 : DefAt 196 Fq_196 Fp_196 Fb_196 Fs_196 (bsPlain ["sum_now", "lsize", "psize", "packed"]) none where
  at_ := fun w => ⟨_, _, _, _, _, _, _, _, _, _, _, rfl, by unfold KF; k_is, (fun _ e => by cases e), fun s vs ds b K rs h => bsPlain_ok (w := w) (by exact lenS fun _ => lenS fun _ => lenS fun _ => lenS fun _ => len0 (BindsTo.of_eq rfl)) rs h⟩
  co := rfl
  gen := rfl
  kind := rfl
  nd := by decide
  kinds := bsPlain_kinds (by decide)
@[irreducible] noncomputable def P_196 : FP := pDef Fs_196.names (bsPlain ["sum_now", "lsize", "psize", "packed"]) R_196.1
theorem F_196 : SndFc 1 (.ref 196) P_196 := by unfold P_196; exact mkF R_196 D_196
noncomputable def R_291 : { P : SP // WSs (nkD Fs_291.names none (Fq_291 ++ ".<locals>.")) 0 8 Fb_291 P } := ⟨_,
  (WSs.cons (WS.ret (WE.call rfl g_bytes (by decide) SndF.bytes (KOk.ty _) (WEs.cons (WE.comp rfl (by decide) (by decide) (.nm rfl) (WE.call rfl g_range (by decide) SndF.range (KOk.ty _) (WEs.cons (WE.loc rfl (by decide)) WEs.nil rfl)) (WE.bin (WE.bin (WE.fre rfl (by decide) (by decide)) (WE.bin WE.int (WE.loc rfl (by decide)))) WE.int) (fun _ _ => rfl)) WEs.nil rfl)))
    WSs.nil)⟩
theorem D_291 : DefAt 291 Fq_291 Fp_291 Fb_291 Fs_291 (bsPlain ["number", "size"]) none where
  at_ := fun w => ⟨_, _, _, _, _, _, _, _, _, _, _, rfl, by unfold KF; k_is, (fun _ e => by cases e), fun s vs ds b K rs h => bsPlain_ok (w := w) (by exact lenS fun _ => lenS fun _ => len0 (BindsTo.of_eq rfl)) rs h⟩
  co := rfl
  gen := rfl
  kind := rfl
  nd := by decide
  kinds := bsPlain_kinds (by decide)
@[irreducible] noncomputable def P_291 : FP := pDef Fs_291.names (bsPlain ["number", "size"]) R_291.1
theorem F_291 : SndFc 1 (.ref 291) P_291 := by unfold P_291; exact mkF R_291 D_291
noncomputable def R_210 : { P : SP // WSs (nkD Fs_210.names none (Fq_210 ++ ".<locals>.")) 0 8 Fb_210 P } := ⟨_,
  (WSs.cons (WS.asgA WE.dict0 (WE.loc rfl (by decide)) as_256_entries fun _ => rfl)
    (WSs.cons (WS.asgA WE.bool (WE.loc rfl (by decide)) as_256_is_changed fun _ => rfl)
    WSs.nil))⟩
theorem D_210 : DefAt 210 Fq_210 Fp_210 Fb_210 Fs_210 (bsPlain ["self"]) none where
  at_ := fun w => ⟨_, _, _, _, _, _, _, _, _, _, _, rfl, by unfold KF; k_is, (fun _ e => by cases e), fun s vs ds b K rs h => bsPlain_ok (w := w) (by exact lenS fun _ => len0 (BindsTo.of_eq rfl)) rs h⟩
  co := rfl
  gen := rfl
  kind := rfl
  nd := by decide
  kinds := bsPlain_kinds (by decide)
@[irreducible] noncomputable def P_210 : FP := pDef Fs_210.names (bsPlain ["self"]) R_210.1
theorem F_210 : SndFc 1 (.ref 210) P_210 := by unfold P_210; exact mkF R_210 D_210
noncomputable def R_132 : { P : SP // WSs (nkD Fs_132.names none (Fq_132 ++ ".<locals>.")) 0 8 Fb_132 P } := ⟨_,
  (WSs.cons (WS.ret (WE.call rfl g_bytes (by decide) SndF.bytes (KOk.ty _) (WEs.cons (WE.attr (WE.loc rfl (by decide)) (ak_135_octets) fun _ => rfl) WEs.nil rfl)))
    WSs.nil)⟩
theorem D_132 : DefAt 132 Fq_132 Fp_132 Fb_132 Fs_132 (bsPlain ["self"]) none where
  at_ := fun w => ⟨_, _, _, _, _, _, _, _, _, _, _, rfl, by unfold KF; k_is, (fun _ e => by cases e), fun s vs ds b K rs h => bsPlain_ok (w := w) (by exact lenS fun _ => len0 (BindsTo.of_eq rfl)) rs h⟩
  co := rfl
  gen := rfl
  kind := rfl
  nd := by decide
  kinds := bsPlain_kinds (by decide)
@[irreducible] noncomputable def P_132 : FP := pDef Fs_132.names (bsPlain ["self"]) R_132.1
theorem F_132 : SndFc 1 (.ref 132) P_132 := by unfold P_132; exact mkF R_132 D_132
noncomputable def R_161 : { P : SP // WSs (nkD Fs_161.names none (Fq_161 ++ ".<locals>.")) 0 8 Fb_161 P } := ⟨_,
  (WSs.cons (WS.ret (WE.bin (WE.call rfl g_len (by decide) SndF.len (KOk.bi _) (WEs.cons (WE.attr (WE.loc rfl (by decide)) (ak_185_octets) fun _ => rfl) WEs.nil rfl)) (WE.attr (WE.loc rfl (by decide)) (ak_185_at) fun _ => rfl)))
    WSs.nil)⟩
theorem D_161 : DefAt 161 Fq_161 Fp_161 Fb_161 Fs_161 (bsPlain ["self"]) none where
  at_ := fun w => ⟨_, _, _, _, _, _, _, _, _, _, _, rfl, by unfold KF; k_is, (fun _ e => by cases e), fun s vs ds b K rs h => bsPlain_ok (w := w) (by exact lenS fun _ => len0 (BindsTo.of_eq rfl)) rs h⟩
  co := rfl
  gen := rfl
  kind := rfl
  nd := by decide
  kinds := bsPlain_kinds (by decide)
@[irreducible] noncomputable def P_161 : FP := pDef Fs_161.names (bsPlain ["self"]) R_161.1
theorem F_161 : SndFc 1 (.ref 161) P_161 := by unfold P_161; exact mkF R_161 D_161
noncomputable def R_243 : { P : SP // WSs (nkD Fs_243.names none (Fq_243 ++ ".<locals>.")) 0 8 Fb_243 P } := ⟨_,
  (WSs.cons (WS.ret (WE.call rfl g_len (by decide) SndF.len (KOk.bi _) (WEs.cons (WE.attr (WE.loc rfl (by decide)) (ak_256_entries) fun _ => rfl) WEs.nil rfl)))
    WSs.nil)⟩
theorem D_243 : DefAt 243 Fq_243 Fp_243 Fb_243 Fs_243 (bsPlain ["self"]) none where
  at_ := fun w => ⟨_, _, _, _, _, _, _, _, _, _, _, rfl, by unfold KF; k_is, (fun _ e => by cases e), fun s vs ds b K rs h => bsPlain_ok (w := w) (by exact lenS fun _ => len0 (BindsTo.of_eq rfl)) rs h⟩
  co := rfl
  gen := rfl
  kind := rfl
  nd := by decide
  kinds := bsPlain_kinds (by decide)
@[irreducible] noncomputable def P_243 : FP := pDef Fs_243.names (bsPlain ["self"]) R_243.1
theorem F_243 : SndFc 1 (.ref 243) P_243 := by unfold P_243; exact mkF R_243 D_243
noncomputable def R_248 : { P : SP // WSs (nkD Fs_248.names none (Fq_248 ++ ".<locals>.")) 0 8 Fb_248 P } := ⟨_,
  (WSs.cons (WS.asg WE.int rfl fun _ => rfl)
    (WSs.cons (WS.for_ (.tp (.cons (.cons (.cons .nil))) (KsOk.cons rfl (KsOk.cons rfl (KsOk.cons rfl KsOk.nil)))) (WE.methB (WE.attr (WE.loc rfl (by decide)) (ak_256_entries) fun _ => rfl) WEs.nil SndF.values PySem.F.plainAttrs_dict PySem.F.slot_dict_values rfl (fun _ => rfl) (by decide) rfl) (WSs.cons (WS.asg (WE.bin (WE.loc rfl (by decide)) (WE.bin (WE.bin (WE.loc rfl (by decide)) WE.int) (WE.call rfl g_sum (by decide) SndF.sum (KOk.bi _) (WEs.cons (WE.comp rfl (by decide) (by decide) (.nm rfl) (WE.loc rfl (by decide)) (WE.item (WE.loc rfl (by decide)) WE.int) (fun _ _ => rfl)) WEs.nil rfl)))) rfl fun _ => rfl)
    WSs.nil) fun _ _ => rfl)
    (WSs.cons (WS.ret (WE.loc rfl (by decide)))
    WSs.nil)))⟩
theorem D_248 : DefAt 248 Fq_248 Fp_248 Fb_248 Fs_248 (bsPlain ["self"]) none where
  at_ := fun w => ⟨_, _, _, _, _, _, _, _, _, _, _, rfl, by unfold KF; k_is, (fun _ e => by cases e), fun s vs ds b K rs h => bsPlain_ok (w := w) (by exact lenS fun _ => len0 (BindsTo.of_eq rfl)) rs h⟩
  co := rfl
  gen := rfl
  kind := rfl
  nd := by decide
  kinds := bsPlain_kinds (by decide)
@[irreducible] noncomputable def P_248 : FP := pDef Fs_248.names (bsPlain ["self"]) R_248.1
theorem F_248 : SndFc 1 (.ref 248) P_248 := by unfold P_248; exact mkF R_248 D_248
noncomputable def R_253 : { P : SP // WSs (nkD Fs_253.names none (Fq_253 ++ ".<locals>.")) 0 8 Fb_253 P } := ⟨_,
  (WSs.cons (WS.ret (WE.call rfl g_sorted (by decide) SndF.sorted (KOk.bi _) (WEs.cons (WE.comp rfl (by decide) (by decide) (.tp (.cons (.cons .nil)) (KsOk.cons rfl (KsOk.cons rfl KsOk.nil))) (WE.methB (WE.attr (WE.loc rfl (by decide)) (ak_256_entries) fun _ => rfl) WEs.nil SndF.items PySem.F.plainAttrs_dict PySem.F.slot_dict_items rfl (fun _ => rfl) (by decide) rfl) (WE.bin (WE.tuple (WEs.cons (WE.loc rfl (by decide)) WEs.nil rfl)) (WE.loc rfl (by decide))) (fun _ _ => rfl)) WEs.nil rfl)))
    WSs.nil)⟩
theorem D_253 : DefAt 253 Fq_253 Fp_253 Fb_253 Fs_253 (bsPlain ["self"]) none where
  at_ := fun w => ⟨_, _, _, _, _, _, _, _, _, _, _, rfl, by unfold KF; k_is, (fun _ e => by cases e), fun s vs ds b K rs h => bsPlain_ok (w := w) (by exact lenS fun _ => len0 (BindsTo.of_eq rfl)) rs h⟩
  co := rfl
  gen := rfl
  kind := rfl
  nd := by decide
  kinds := bsPlain_kinds (by decide)
@[irreducible] noncomputable def P_253 : FP := pDef Fs_253.names (bsPlain ["self"]) R_253.1
theorem F_253 : SndFc 1 (.ref 253) P_253 := by unfold P_253; exact mkF R_253 D_253
noncomputable def R_279 : { P : SP // WSs (nkD Fs_279.names none (Fq_279 ++ ".<locals>.")) 0 8 Fb_279 P } := ⟨_,
  (WSs.cons (WS.asg (WE.list (WEs.cons (WE.tuple (WEs.cons (WE.tuple (WEs.cons WE.int (WEs.cons WE.int (WEs.cons WE.int (WEs.cons WE.int WEs.nil rfl) rfl) rfl) rfl)) (WEs.cons WE.int (WEs.cons WE.int (WEs.cons WE.int WEs.nil rfl) rfl) rfl) rfl)) (WEs.cons (WE.tuple (WEs.cons (WE.tuple (WEs.cons WE.int (WEs.cons WE.int (WEs.cons WE.int (WEs.cons WE.int WEs.nil rfl) rfl) rfl) rfl)) (WEs.cons WE.int (WEs.cons WE.int (WEs.cons WE.int WEs.nil rfl) rfl) rfl) rfl)) (WEs.cons (WE.tuple (WEs.cons (WE.tuple (WEs.cons WE.int (WEs.cons WE.int (WEs.cons WE.int (WEs.cons WE.int WEs.nil rfl) rfl) rfl) rfl)) (WEs.cons WE.int (WEs.cons WE.int (WEs.cons WE.int WEs.nil rfl) rfl) rfl) rfl)) (WEs.cons (WE.tuple (WEs.cons (WE.tuple (WEs.cons WE.int (WEs.cons WE.int (WEs.cons WE.int (WEs.cons WE.int WEs.nil rfl) rfl) rfl) rfl)) (WEs.cons WE.int (WEs.cons WE.int (WEs.cons WE.int WEs.nil rfl) rfl) rfl) rfl)) WEs.nil rfl) rfl) rfl) rfl)) rfl fun _ => rfl)
    (WSs.cons (WS.ret (WE.item (WE.bin (WE.loc rfl (by decide)) (WE.list (WEs.cons (WE.tuple (WEs.cons (WE.tuple (WEs.cons WE.int (WEs.cons WE.int (WEs.cons WE.int (WEs.cons WE.int WEs.nil rfl) rfl) rfl) rfl)) (WEs.cons WE.int (WEs.cons WE.int (WEs.cons WE.int WEs.nil rfl) rfl) rfl) rfl)) (WEs.cons (WE.tuple (WEs.cons (WE.tuple (WEs.cons (WE.bin (WE.bin WE.int WE.int) WE.int) (WEs.cons WE.int (WEs.cons WE.int (WEs.cons WE.int WEs.nil rfl) rfl) rfl) rfl)) (WEs.cons WE.int (WEs.cons WE.int (WEs.cons WE.int WEs.nil rfl) rfl) rfl) rfl)) WEs.nil rfl) rfl))) (WE.bin (WE.loc rfl (by decide)) WE.int)))
    WSs.nil))⟩
theorem D_279 : DefAt 279 Fq_279 Fp_279 Fb_279 Fs_279 (bsPlain ["x"]) none where
  at_ := fun w => ⟨_, _, _, _, _, _, _, _, _, _, _, rfl, by unfold KF; k_is, (fun _ e => by cases e), fun s vs ds b K rs h => bsPlain_ok (w := w) (by exact lenS fun _ => len0 (BindsTo.of_eq rfl)) rs h⟩
  co := rfl
  gen := rfl
  kind := rfl
  nd := by decide
  kinds := bsPlain_kinds (by decide)
@[irreducible] noncomputable def P_279 : FP := pDef Fs_279.names (bsPlain ["x"]) R_279.1
theorem F_279 : SndFc 1 (.ref 279) P_279 := by unfold P_279; exact mkF R_279 D_279
noncomputable def R_286 : { P : SP // WSs (nkD Fs_286.names none (Fq_286 ++ ".<locals>.")) 0 8 Fb_286 P } := ⟨_,
  (WSs.cons (WS.asg (WE.list (WEs.cons (WE.tuple (WEs.cons (WE.tuple (WEs.cons WE.int (WEs.cons WE.int (WEs.cons WE.int WEs.nil rfl) rfl) rfl)) WEs.nil rfl)) (WEs.cons (WE.tuple (WEs.cons (WE.tuple (WEs.cons WE.int (WEs.cons WE.int (WEs.cons WE.int WEs.nil rfl) rfl) rfl)) (WEs.cons (WE.tuple (WEs.cons WE.int (WEs.cons WE.int (WEs.cons WE.int WEs.nil rfl) rfl) rfl)) WEs.nil rfl) rfl)) (WEs.cons (WE.tuple (WEs.cons (WE.tuple (WEs.cons WE.int (WEs.cons WE.int (WEs.cons WE.int WEs.nil rfl) rfl) rfl)) (WEs.cons (WE.tuple (WEs.cons WE.int (WEs.cons WE.int (WEs.cons WE.int WEs.nil rfl) rfl) rfl)) (WEs.cons (WE.tuple (WEs.cons WE.int (WEs.cons WE.int (WEs.cons WE.int WEs.nil rfl) rfl) rfl)) WEs.nil rfl) rfl) rfl)) WEs.nil rfl) rfl) rfl)) rfl fun _ => rfl)
    (WSs.cons (WS.ret (WE.item (WE.loc rfl (by decide)) (WE.bin (WE.loc rfl (by decide)) WE.int)))
    WSs.nil))⟩
theorem D_286 : DefAt 286 Fq_286 Fp_286 Fb_286 Fs_286 (bsPlain ["x"]) none where
  at_ := fun w => ⟨_, _, _, _, _, _, _, _, _, _, _, rfl, by unfold KF; k_is, (fun _ e => by cases e), fun s vs ds b K rs h => bsPlain_ok (w := w) (by exact lenS fun _ => len0 (BindsTo.of_eq rfl)) rs h⟩
  co := rfl
  gen := rfl
  kind := rfl
  nd := by decide
  kinds := bsPlain_kinds (by decide)
@[irreducible] noncomputable def P_286 : FP := pDef Fs_286.names (bsPlain ["x"]) R_286.1
theorem F_286 : SndFc 1 (.ref 286) P_286 := by unfold P_286; exact mkF R_286 D_286
noncomputable def R_28 : { P : SP // WSs (nkD Fs_28.names none (Fq_28 ++ ".<locals>.")) 0 8 Fb_28 P } := ⟨_,
  (WSs.cons (WS.expr (WE.excInit rfl (WEs.cons (WE.loc rfl (by decide)) (WEs.cons (WE.loc rfl (by decide)) WEs.nil rfl) rfl) (by decide) rfl) fun _ => rfl)
    (WSs.cons (WS.asgX (WE.loc rfl (by decide)) (WE.loc rfl (by decide)) fun _ => rfl)
    WSs.nil))⟩
theorem D_28 : DefAt 28 Fq_28 Fp_28 Fb_28 Fs_28 (bsPlain ["self", "why"]) none where
  at_ := fun w => ⟨_, _, _, _, _, _, _, _, _, _, _, rfl, by unfold KF; k_is, (fun _ e => by cases e), fun s vs ds b K rs h => bsPlain_ok (w := w) (by exact lenS fun _ => lenS fun _ => len0 (BindsTo.of_eq rfl)) rs h⟩
  co := rfl
  gen := rfl
  kind := rfl
  nd := by decide
  kinds := bsPlain_kinds (by decide)
@[irreducible] noncomputable def P_28 : FP := pDef Fs_28.names (bsPlain ["self", "why"]) R_28.1
theorem F_28 : SndFc 1 (.ref 28) P_28 := by unfold P_28; exact mkF R_28 D_28
end Mine
end F_FnA
section F_FnB
open PySem PySem.W PySem.Spec PySem.Calls PyProof.Rows
namespace Mine
set_option maxHeartbeats 400000
theorem N_44 : SndF 2 (.ref 44) (fExc 44 P_28) := SndF.exc xc_44 fn_28 F_28
theorem N_56 : SndF 2 (.ref 56) (fExc 56 P_28) := SndF.exc xc_56 fn_28 F_28
theorem N_68 : SndF 2 (.ref 68) (fExc 68 P_28) := SndF.exc xc_68 fn_28 F_28
theorem N_256 : SndF 2 (.ref 256) (fNew 256 P_210) := SndF.new mo_256 F_210
noncomputable def R_217 : { P : SP // WSs (nkD Fs_217.names none (Fq_217 ++ ".<locals>.")) 1 8 Fb_217 P } := ⟨_,
  (WSs.cons (WS.asg (WE.call rfl g_key_of (by decide) (((F_196).up (by decide)).f) (k_key_of) (WEs.cons (WE.loc rfl (by decide)) (WEs.cons (WE.loc rfl (by decide)) (WEs.cons (WE.loc rfl (by decide)) (WEs.cons (WE.loc rfl (by decide)) WEs.nil rfl) rfl) rfl) rfl)) rfl fun _ => rfl)
    (WSs.cons (WS.ret (WE.ifexp (WB.cmp (WE.loc rfl (by decide)) (WE.attr (WE.loc rfl (by decide)) (ak_256_entries) fun _ => rfl) rfl) (WE.slice (WE.item (WE.attr (WE.loc rfl (by decide)) (ak_256_entries) fun _ => rfl) (WE.loc rfl (by decide))) WP.none (WP.some WE.int)) WE.none))
    WSs.nil))⟩
theorem D_217 : DefAt 217 Fq_217 Fp_217 Fb_217 Fs_217 (bsPlain ["self", "sum_now", "lsize", "psize", "packed"]) none where
  at_ := fun w => ⟨_, _, _, _, _, _, _, _, _, _, _, rfl, by unfold KF; k_is, (fun _ e => by cases e), fun s vs ds b K rs h => bsPlain_ok (w := w) (by exact lenS fun _ => lenS fun _ => lenS fun _ => lenS fun _ => lenS fun _ => len0 (BindsTo.of_eq rfl)) rs h⟩
  co := rfl
  gen := rfl
  kind := rfl
  nd := by decide
  kinds := bsPlain_kinds (by decide)
@[irreducible] noncomputable def P_217 : FP := pDef Fs_217.names (bsPlain ["self", "sum_now", "lsize", "psize", "packed"]) R_217.1
theorem F_217 : SndFc 2 (.ref 217) P_217 := by unfold P_217; exact mkF R_217 D_217
noncomputable def R_224 : { P : SP // WSs (nkD Fs_224.names none (Fq_224 ++ ".<locals>.")) 1 8 Fb_224 P } := ⟨_,
  (WSs.cons (WS.asg (WE.call rfl g_key_of (by decide) (((F_196).up (by decide)).f) (k_key_of) (WEs.cons (WE.loc rfl (by decide)) (WEs.cons (WE.loc rfl (by decide)) (WEs.cons (WE.loc rfl (by decide)) (WEs.cons (WE.loc rfl (by decide)) WEs.nil rfl) rfl) rfl) rfl)) rfl fun _ => rfl)
    (WSs.cons (WS.ret (WE.ifexp (WB.cmp (WE.loc rfl (by decide)) (WE.attr (WE.loc rfl (by decide)) (ak_256_entries) fun _ => rfl) rfl) (WE.item (WE.item (WE.attr (WE.loc rfl (by decide)) (ak_256_entries) fun _ => rfl) (WE.loc rfl (by decide))) WE.int) WE.int))
    WSs.nil))⟩
theorem D_224 : DefAt 224 Fq_224 Fp_224 Fb_224 Fs_224 (bsPlain ["self", "sum_now", "lsize", "psize", "packed"]) none where
  at_ := fun w => ⟨_, _, _, _, _, _, _, _, _, _, _, rfl, by unfold KF; k_is, (fun _ e => by cases e), fun s vs ds b K rs h => bsPlain_ok (w := w) (by exact lenS fun _ => lenS fun _ => lenS fun _ => lenS fun _ => lenS fun _ => len0 (BindsTo.of_eq rfl)) rs h⟩
  co := rfl
  gen := rfl
  kind := rfl
  nd := by decide
  kinds := bsPlain_kinds (by decide)
@[irreducible] noncomputable def P_224 : FP := pDef Fs_224.names (bsPlain ["self", "sum_now", "lsize", "psize", "packed"]) R_224.1
theorem F_224 : SndFc 2 (.ref 224) P_224 := by unfold P_224; exact mkF R_224 D_224
noncomputable def R_296 : { P : SP // WSs (nkD Fs_296.names none (Fq_296 ++ ".<locals>.")) 1 8 Fb_296 P } := ⟨_,
  (WSs.cons (WS.asg (WE.call rfl g__law_number (by decide) (((F_291).up (by decide)).f) (k__law_number) (WEs.cons (WE.call rfl g_len (by decide) SndF.len (KOk.bi _) (WEs.cons (WE.loc rfl (by decide)) WEs.nil rfl)) (WEs.cons WE.int WEs.nil rfl) rfl)) rfl fun _ => rfl)
    (WSs.cons (WS.for_ (.tp (.cons (.cons (.cons (.cons .nil)))) (KsOk.cons rfl (KsOk.cons rfl (KsOk.cons rfl (KsOk.cons rfl KsOk.nil))))) (WE.loc rfl (by decide)) (WSs.cons (WS.asg (WE.bin (WE.bin (WE.bin (WE.loc rfl (by decide)) (WE.methB WE.bytes (WEs.cons (WE.comp rfl (by decide) (by decide) (.nm rfl) (WE.item (WE.loc rfl (by decide)) WE.int) (WE.call rfl g__law_number (by decide) (((F_291).up (by decide)).f) (k__law_number) (WEs.cons (WE.loc rfl (by decide)) (WEs.cons WE.int WEs.nil rfl) rfl)) (fun _ _ => rfl)) WEs.nil rfl) SndF.join FB.plainAttrs_bytes BF.slot_join BF.type_join (fun _ => rfl) (by decide) rfl)) (WE.call rfl g__law_number (by decide) (((F_291).up (by decide)).f) (k__law_number) (WEs.cons (WE.item (WE.loc rfl (by decide)) WE.int) (WEs.cons WE.int WEs.nil rfl) rfl))) (WE.call rfl g__law_number (by decide) (((F_291).up (by decide)).f) (k__law_number) (WEs.cons (WE.item (WE.loc rfl (by decide)) WE.int) (WEs.cons WE.int WEs.nil rfl) rfl))) rfl fun _ => rfl)
    (WSs.cons (WS.asg (WE.bin (WE.bin (WE.bin (WE.bin (WE.loc rfl (by decide)) (WE.call rfl g__law_number (by decide) (((F_291).up (by decide)).f) (k__law_number) (WEs.cons (WE.item (WE.loc rfl (by decide)) WE.int) (WEs.cons WE.int WEs.nil rfl) rfl))) (WE.call rfl g__law_number (by decide) (((F_291).up (by decide)).f) (k__law_number) (WEs.cons (WE.loc rfl (by decide)) (WEs.cons WE.int WEs.nil rfl) rfl))) (WE.call rfl g__law_number (by decide) (((F_291).up (by decide)).f) (k__law_number) (WEs.cons (WE.loc rfl (by decide)) (WEs.cons WE.int WEs.nil rfl) rfl))) (WE.call rfl g__law_number (by decide) (((F_291).up (by decide)).f) (k__law_number) (WEs.cons (WE.call rfl g_len (by decide) SndF.len (KOk.bi _) (WEs.cons (WE.loc rfl (by decide)) WEs.nil rfl)) (WEs.cons WE.int WEs.nil rfl) rfl))) rfl fun _ => rfl)
    (WSs.cons (WS.for_ (.tp (.cons (.cons (.cons .nil))) (KsOk.cons rfl (KsOk.cons rfl (KsOk.cons rfl KsOk.nil)))) (WE.loc rfl (by decide)) (WSs.cons (WS.asg (WE.bin (WE.bin (WE.bin (WE.loc rfl (by decide)) (WE.call rfl g__law_number (by decide) (((F_291).up (by decide)).f) (k__law_number) (WEs.cons (WE.loc rfl (by decide)) (WEs.cons WE.int WEs.nil rfl) rfl))) (WE.call rfl g__law_number (by decide) (((F_291).up (by decide)).f) (k__law_number) (WEs.cons (WE.loc rfl (by decide)) (WEs.cons WE.int WEs.nil rfl) rfl))) (WE.call rfl g__law_number (by decide) (((F_291).up (by decide)).f) (k__law_number) (WEs.cons (WE.loc rfl (by decide)) (WEs.cons WE.int WEs.nil rfl) rfl))) rfl fun _ => rfl)
    WSs.nil) fun _ _ => rfl)
    WSs.nil))) fun _ _ => rfl)
    (WSs.cons (WS.ret (WE.loc rfl (by decide)))
    WSs.nil)))⟩
theorem D_296 : DefAt 296 Fq_296 Fp_296 Fb_296 Fs_296 (bsPlain ["rows"]) none where
  at_ := fun w => ⟨_, _, _, _, _, _, _, _, _, _, _, rfl, by unfold KF; k_is, (fun _ e => by cases e), fun s vs ds b K rs h => bsPlain_ok (w := w) (by exact lenS fun _ => len0 (BindsTo.of_eq rfl)) rs h⟩
  co := rfl
  gen := rfl
  kind := rfl
  nd := by decide
  kinds := bsPlain_kinds (by decide)
@[irreducible] noncomputable def P_296 : FP := pDef Fs_296.names (bsPlain ["rows"]) R_296.1
theorem F_296 : SndFc 2 (.ref 296) P_296 := by unfold P_296; exact mkF R_296 D_296
noncomputable def R_80 : { P : SP // WSs (nkD Fs_80.names none (Fq_80 ++ ".<locals>.")) 2 8 Fb_80 P } := ⟨_,
  (WSs.cons (WS.if_ (WB.not_ (WB.chain WE.int (WE.cel rfl (by decide) (by decide)) (WE.bin WE.int (WE.loc rfl (by decide))) rfl)) (WSs.cons (WS.raise (WE.call rfl g_Misused (by decide) (N_68.up (by decide)) (k_Misused) (WEs.cons WE.str WEs.nil rfl)))
    WSs.nil) WSs.nil)
    (WSs.cons (WS.ret (WE.call rfl g_bytes (by decide) SndF.bytes (KOk.ty _) (WEs.cons (WE.comp rfl (by decide) (by decide) (.nm rfl) (WE.call rfl g_range (by decide) SndF.range (KOk.ty _) (WEs.cons (WE.loc rfl (by decide)) WEs.nil rfl)) (WE.bin (WE.bin (WE.fre rfl (by decide) (by decide)) (WE.bin WE.int (WE.loc rfl (by decide)))) WE.int) (fun _ _ => rfl)) WEs.nil rfl)))
    WSs.nil))⟩
theorem D_80 : DefAt 80 Fq_80 Fp_80 Fb_80 Fs_80 (bsPlain ["number", "size"]) none where
  at_ := fun w => ⟨_, _, _, _, _, _, _, _, _, _, _, rfl, by unfold KF; k_is, (fun _ e => by cases e), fun s vs ds b K rs h => bsPlain_ok (w := w) (by exact lenS fun _ => lenS fun _ => len0 (BindsTo.of_eq rfl)) rs h⟩
  co := rfl
  gen := rfl
  kind := rfl
  nd := by decide
  kinds := bsPlain_kinds (by decide)
@[irreducible] noncomputable def P_80 : FP := pDef Fs_80.names (bsPlain ["number", "size"]) R_80.1
theorem F_80 : SndFc 3 (.ref 80) P_80 := by unfold P_80; exact mkF R_80 D_80
noncomputable def R_168 : { P : SP // WSs (nkD Fs_168.names none (Fq_168 ++ ".<locals>.")) 2 8 Fb_168 P } := ⟨_,
  (WSs.cons (WS.if_ (WB.cmp (WE.loc rfl (by decide)) (WE.meth (WE.loc rfl (by decide)) WEs.nil mk_185_left (((F_161).up (by decide)).f) k_Cursor_left (fun _ => rfl) (by decide) rfl) rfl) (WSs.cons (WS.raise (WE.call rfl g_Corrupt (by decide) (N_44.up (by decide)) (k_Corrupt) (WEs.cons WE.str WEs.nil rfl)))
    WSs.nil) WSs.nil)
    (WSs.cons (WS.asg (WE.call rfl g_bytes (by decide) SndF.bytes (KOk.ty _) (WEs.cons (WE.slice (WE.attr (WE.loc rfl (by decide)) (ak_185_octets) fun _ => rfl) (WP.some (WE.attr (WE.loc rfl (by decide)) (ak_185_at) fun _ => rfl)) (WP.some (WE.bin (WE.attr (WE.loc rfl (by decide)) (ak_185_at) fun _ => rfl) (WE.loc rfl (by decide))))) WEs.nil rfl)) rfl fun _ => rfl)
    (WSs.cons (WS.asgA (WE.bin (WE.attr (WE.loc rfl (by decide)) (ak_185_at) fun _ => rfl) (WE.loc rfl (by decide))) (WE.loc rfl (by decide)) as_185_at fun _ => rfl)
    (WSs.cons (WS.ret (WE.loc rfl (by decide)))
    WSs.nil))))⟩
theorem D_168 : DefAt 168 Fq_168 Fp_168 Fb_168 Fs_168 (bsPlain ["self", "many"]) none where
  at_ := fun w => ⟨_, _, _, _, _, _, _, _, _, _, _, rfl, by unfold KF; k_is, (fun _ e => by cases e), fun s vs ds b K rs h => bsPlain_ok (w := w) (by exact lenS fun _ => lenS fun _ => len0 (BindsTo.of_eq rfl)) rs h⟩
  co := rfl
  gen := rfl
  kind := rfl
  nd := by decide
  kinds := bsPlain_kinds (by decide)
@[irreducible] noncomputable def P_168 : FP := pDef Fs_168.names (bsPlain ["self", "many"]) R_168.1
theorem F_168 : SndFc 3 (.ref 168) P_168 := by unfold P_168; exact mkF R_168 D_168
noncomputable def R_175 : { P : SP // WSs (nkD Fs_175.names none (Fq_175 ++ ".<locals>.")) 3 8 Fb_175 P } := ⟨_,
  (WSs.cons (WS.ret (WE.call rfl g_number_of (by decide) (((F_75).up (by decide)).f) (k_number_of) (WEs.cons (WE.meth (WE.loc rfl (by decide)) (WEs.cons (WE.loc rfl (by decide)) WEs.nil rfl) mk_185_take (((F_168).up (by decide)).f) k_Cursor_take (fun _ => rfl) (by decide) rfl) WEs.nil rfl)))
    WSs.nil)⟩
theorem D_175 : DefAt 175 Fq_175 Fp_175 Fb_175 Fs_175 (bsPlain ["self", "size"]) none where
  at_ := fun w => ⟨_, _, _, _, _, _, _, _, _, _, _, rfl, by unfold KF; k_is, (fun _ e => by cases e), fun s vs ds b K rs h => bsPlain_ok (w := w) (by exact lenS fun _ => lenS fun _ => len0 (BindsTo.of_eq rfl)) rs h⟩
  co := rfl
  gen := rfl
  kind := rfl
  nd := by decide
  kinds := bsPlain_kinds (by decide)
@[irreducible] noncomputable def P_175 : FP := pDef Fs_175.names (bsPlain ["self", "size"]) R_175.1
theorem F_175 : SndFc 4 (.ref 175) P_175 := by unfold P_175; exact mkF R_175 D_175
noncomputable def R_229 : { P : SP // WSs (nkD Fs_229.names none (Fq_229 ++ ".<locals>.")) 2 8 Fb_229 P } := ⟨_,
  (WSs.cons (WS.swap (WE.tuple (WEs.cons (WE.call rfl g_key_of (by decide) (((F_196).up (by decide)).f) (k_key_of) (WEs.cons (WE.loc rfl (by decide)) (WEs.cons (WE.loc rfl (by decide)) (WEs.cons (WE.loc rfl (by decide)) (WEs.cons (WE.loc rfl (by decide)) WEs.nil rfl) rfl) rfl) rfl)) (WEs.cons (WE.call rfl g_tuple (by decide) SndF.tuple (KOk.ty _) (WEs.cons (WE.comp rfl (by decide) (by decide) (.nm rfl) (WE.loc rfl (by decide)) (WE.call rfl g_tuple (by decide) SndF.tuple (KOk.ty _) (WEs.cons (WE.loc rfl (by decide)) WEs.nil rfl)) (fun _ _ => rfl)) WEs.nil rfl)) WEs.nil rfl) rfl)) (KsOk.cons rfl (KsOk.cons rfl KsOk.nil)) (fun _ => rfl) (fun X fm => sw2 fm rfl rfl (by decide) rfl rfl rfl rfl))
    (WSs.cons (WS.if_ (WB.and_ (WB.cmp (WE.loc rfl (by decide)) (WE.attr (WE.loc rfl (by decide)) (ak_256_entries) fun _ => rfl) rfl) (WB.cmp (WE.slice (WE.item (WE.attr (WE.loc rfl (by decide)) (ak_256_entries) fun _ => rfl) (WE.loc rfl (by decide))) WP.none (WP.some WE.int)) (WE.tuple (WEs.cons (WE.loc rfl (by decide)) (WEs.cons (WE.loc rfl (by decide)) WEs.nil rfl) rfl)) rfl)) (WSs.cons (WS.raise (WE.call rfl g_Misused (by decide) (N_68.up (by decide)) (k_Misused) (WEs.cons WE.str WEs.nil rfl)))
    WSs.nil) WSs.nil)
    (WSs.cons (WS.asgI (WE.tuple (WEs.cons (WE.loc rfl (by decide)) (WEs.cons (WE.loc rfl (by decide)) (WEs.cons (WE.bin (WE.meth (WE.loc rfl (by decide)) (WEs.cons (WE.loc rfl (by decide)) (WEs.cons (WE.loc rfl (by decide)) (WEs.cons (WE.loc rfl (by decide)) (WEs.cons (WE.loc rfl (by decide)) WEs.nil rfl) rfl) rfl) rfl) mk_256_wanted (((F_224).up (by decide)).f) k_Dedup_wanted (fun _ => rfl) (by decide) rfl) WE.int) WEs.nil rfl) rfl) rfl)) (WE.attr (WE.loc rfl (by decide)) (ak_256_entries) fun _ => rfl) (WE.loc rfl (by decide)) fun _ => rfl)
    (WSs.cons (WS.asgA WE.bool (WE.loc rfl (by decide)) as_256_is_changed fun _ => rfl)
    WSs.nil))))⟩
theorem D_229 : DefAt 229 Fq_229 Fp_229 Fb_229 Fs_229 (bsPlain ["self", "sum_now", "lsize", "psize", "packed", "dvas", "birth"]) none where
  at_ := fun w => ⟨_, _, _, _, _, _, _, _, _, _, _, rfl, by unfold KF; k_is, (fun _ e => by cases e), fun s vs ds b K rs h => bsPlain_ok (w := w) (by exact lenS fun _ => lenS fun _ => lenS fun _ => lenS fun _ => lenS fun _ => lenS fun _ => lenS fun _ => len0 (BindsTo.of_eq rfl)) rs h⟩
  co := rfl
  gen := rfl
  kind := rfl
  nd := by decide
  kinds := bsPlain_kinds (by decide)
@[irreducible] noncomputable def P_229 : FP := pDef Fs_229.names (bsPlain ["self", "sum_now", "lsize", "psize", "packed", "dvas", "birth"]) R_229.1
theorem F_229 : SndFc 3 (.ref 229) P_229 := by unfold P_229; exact mkF R_229 D_229
noncomputable def R_236 : { P : SP // WSs (nkD Fs_236.names none (Fq_236 ++ ".<locals>.")) 2 8 Fb_236 P } := ⟨_,
  (WSs.cons (WS.asg (WE.call rfl g_key_of (by decide) (((F_196).up (by decide)).f) (k_key_of) (WEs.cons (WE.loc rfl (by decide)) (WEs.cons (WE.loc rfl (by decide)) (WEs.cons (WE.loc rfl (by decide)) (WEs.cons (WE.loc rfl (by decide)) WEs.nil rfl) rfl) rfl) rfl)) rfl fun _ => rfl)
    (WSs.cons (WS.if_ (WB.cmp (WE.loc rfl (by decide)) (WE.attr (WE.loc rfl (by decide)) (ak_256_entries) fun _ => rfl) rfl) (WSs.cons (WS.raise (WE.call rfl g_Missing (by decide) (N_56.up (by decide)) (k_Missing) (WEs.cons WE.str WEs.nil rfl)))
    WSs.nil) WSs.nil)
    (WSs.cons (WS.asgT (WE.item (WE.attr (WE.loc rfl (by decide)) (ak_256_entries) fun _ => rfl) (WE.loc rfl (by decide))) (.cons (.cons (.cons .nil))) (KsOk.cons rfl (KsOk.cons rfl (KsOk.cons rfl KsOk.nil))) (fun _ => rfl) (fun _ _ => rfl))
    (WSs.cons (WS.if_ (WB.cmp (WE.loc rfl (by decide)) WE.int rfl) (WSs.cons (WS.asgI (WE.tuple (WEs.cons (WE.loc rfl (by decide)) (WEs.cons (WE.loc rfl (by decide)) (WEs.cons (WE.bin (WE.loc rfl (by decide)) WE.int) WEs.nil rfl) rfl) rfl)) (WE.attr (WE.loc rfl (by decide)) (ak_256_entries) fun _ => rfl) (WE.loc rfl (by decide)) fun _ => rfl)
    WSs.nil) (WSs.cons (WS.expr (WE.methB (WE.attr (WE.loc rfl (by decide)) (ak_256_entries) fun _ => rfl) (WEs.cons (WE.loc rfl (by decide)) WEs.nil rfl) SndF.pop PySem.F.plainAttrs_dict PySem.F.slot_dict_pop rfl (fun _ => rfl) (by decide) rfl) fun _ => rfl)
    WSs.nil))
    (WSs.cons (WS.asgA WE.bool (WE.loc rfl (by decide)) as_256_is_changed fun _ => rfl)
    (WSs.cons (WS.ret (WE.cmp (WE.loc rfl (by decide)) WE.int rfl))
    WSs.nil))))))⟩
theorem D_236 : DefAt 236 Fq_236 Fp_236 Fb_236 Fs_236 (bsPlain ["self", "sum_now", "lsize", "psize", "packed"]) none where
  at_ := fun w => ⟨_, _, _, _, _, _, _, _, _, _, _, rfl, by unfold KF; k_is, (fun _ e => by cases e), fun s vs ds b K rs h => bsPlain_ok (w := w) (by exact lenS fun _ => lenS fun _ => lenS fun _ => lenS fun _ => lenS fun _ => len0 (BindsTo.of_eq rfl)) rs h⟩
  co := rfl
  gen := rfl
  kind := rfl
  nd := by decide
  kinds := bsPlain_kinds (by decide)
@[irreducible] noncomputable def P_236 : FP := pDef Fs_236.names (bsPlain ["self", "sum_now", "lsize", "psize", "packed"]) R_236.1
theorem F_236 : SndFc 3 (.ref 236) P_236 := by unfold P_236; exact mkF R_236 D_236
noncomputable def R_315 : { P : SP // WSs (nkD Fs_315.names none (Fq_315 ++ ".<locals>.")) 1 8 Fb_315 P } := ⟨_,
  (WSs.cons (WS.asgC rfl (by decide) (by decide) (.nm rfl) (WE.call rfl g_sorted (by decide) SndF.sorted (KOk.bi _) (WEs.cons (WE.cel rfl (by decide) (by decide)) WEs.nil rfl)) (WE.tuple (WEs.cons (WE.loc rfl (by decide)) (WEs.cons (WE.item (WE.item (WE.fre rfl (by decide) (by decide)) (WE.loc rfl (by decide))) WE.int) (WEs.cons (WE.item (WE.item (WE.fre rfl (by decide) (by decide)) (WE.loc rfl (by decide))) WE.int) (WEs.cons (WE.item (WE.item (WE.fre rfl (by decide) (by decide)) (WE.loc rfl (by decide))) WE.int) WEs.nil rfl) rfl) rfl) rfl)) (fun _ _ => rfl) rfl (fun X fm => sc1 fm rfl rfl (by decide)))
    (WSs.cons (WS.asg (WE.call rfl g_sum (by decide) SndF.sum (KOk.bi _) (WEs.cons (WE.comp rfl (by decide) (by decide) (.tp (.cons (.cons (.cons (.cons .nil)))) (KsOk.cons rfl (KsOk.cons rfl (KsOk.cons rfl (KsOk.cons rfl KsOk.nil))))) (WE.loc rfl (by decide)) (WE.bin (WE.bin (WE.loc rfl (by decide)) WE.int) (WE.call rfl g_sum (by decide) SndF.sum (KOk.bi _) (WEs.cons (WE.comp rfl (by decide) (by decide) (.nm rfl) (WE.loc rfl (by decide)) (WE.item (WE.loc rfl (by decide)) WE.int) (fun _ _ => rfl)) WEs.nil rfl))) (fun _ _ => rfl)) WEs.nil rfl)) rfl fun _ => rfl)
    (WSs.cons (WS.ret (WE.cmp (WE.list (WEs.cons (WE.meth (WE.loc rfl (by decide)) WEs.nil mk_256_rows (((F_253).up (by decide)).f) k_Dedup_rows (fun _ => rfl) (by decide) rfl) (WEs.cons (WE.meth (WE.loc rfl (by decide)) WEs.nil mk_256_many (((F_243).up (by decide)).f) k_Dedup_many (fun _ => rfl) (by decide) rfl) (WEs.cons (WE.meth (WE.loc rfl (by decide)) WEs.nil mk_256_saved (((F_248).up (by decide)).f) k_Dedup_saved (fun _ => rfl) (by decide) rfl) WEs.nil rfl) rfl) rfl)) (WE.list (WEs.cons (WE.loc rfl (by decide)) (WEs.cons (WE.call rfl g_len (by decide) SndF.len (KOk.bi _) (WEs.cons (WE.loc rfl (by decide)) WEs.nil rfl)) (WEs.cons (WE.loc rfl (by decide)) WEs.nil rfl) rfl) rfl)) rfl))
    WSs.nil)))⟩
theorem D_315 : DefAt 315 Fq_315 Fp_315 Fb_315 Fs_315 (bsPlain ["table", "world"]) none where
  at_ := fun w => ⟨_, _, _, _, _, _, _, _, _, _, _, rfl, by unfold KF; k_is, (fun _ e => by cases e), fun s vs ds b K rs h => bsPlain_ok (w := w) (by exact lenS fun _ => lenS fun _ => len0 (BindsTo.of_eq rfl)) rs h⟩
  co := rfl
  gen := rfl
  kind := rfl
  nd := by decide
  kinds := bsPlain_kinds (by decide)
@[irreducible] noncomputable def P_315 : FP := pDef Fs_315.names (bsPlain ["table", "world"]) R_315.1
theorem F_315 : SndFc 2 (.ref 315) P_315 := by unfold P_315; exact mkF R_315 D_315
noncomputable def R_303 : { P : SP // WSs (nkD Fs_303.names none (Fq_303 ++ ".<locals>.")) 6 8 Fb_303 P } := ⟨_,
  (WSs.cons (WS.try_ (tab := told) (WSs.cons (WS.ret (WE.callL rfl (by decide)))
    WSs.nil) (by
    intro C m h
    rcases told_cases h with ⟨rfl, rfl⟩ | ⟨rfl, rfl⟩ | ⟨rfl, rfl⟩
    · exact ⟨.hit rfl g_Missing (by decide), fun w => (xc_56 w).c, by decide⟩
    · exact ⟨.skip rfl g_Missing (by decide) (by decide) (by decide) (fun w => (xc_56 w).c) (.hit rfl g_Misused (by decide)), fun w => (xc_68 w).c, by decide⟩
    · exact ⟨.skip rfl g_Missing (by decide) (by decide) (by decide) (fun w => (xc_56 w).c) (.skip rfl g_Misused (by decide) (by decide) (by decide) (fun w => (xc_68 w).c) (.hit rfl g_Corrupt (by decide))), fun w => (xc_44 w).c, by decide⟩))
    WSs.nil)⟩
theorem D_303 : DefAt 303 Fq_303 Fp_303 Fb_303 Fs_303 (bsPlain ["call"]) none where
  at_ := fun w => ⟨_, _, _, _, _, _, _, _, _, _, _, rfl, by unfold KF; k_is, (fun _ e => by cases e), fun s vs ds b K rs h => bsPlain_ok (w := w) (by exact lenS fun _ => len0 (BindsTo.of_eq rfl)) rs h⟩
  co := rfl
  gen := rfl
  kind := rfl
  nd := by decide
  kinds := bsPlain_kinds (by decide)
@[irreducible] noncomputable def P_303 : FP := pDef Fs_303.names (bsPlain ["call"]) R_303.1
theorem F_303 : SndFc 7 (.ref 303) P_303 := by unfold P_303; exact mkF R_303 D_303
end Mine
end F_FnB
section F_FnC
open PySem PySem.W PySem.Spec PySem.Calls PyProof.Rows
namespace Mine
set_option maxHeartbeats 400000
noncomputable def bsCur (ds : List D) : Option (List (Str × D)) := match ds with
  | [a, b] => some [("self", a), ("octets", b), ("at", .int 0)]
  | _ => none
theorem bsCur_kinds {names : List (Str × NameKind)} (hk : ∀ x ∈ [("self" : Str), "octets", "at"], names.lookup x = some .local ∨ names.lookup x = some .cell) (ds : List D) (b : List (Str × D)) (h : bsCur ds = some b) : ∀ x ∈ b.map (·.1), names.lookup x = some .local ∨ names.lookup x = some .cell := fun x hx => by
  unfold bsCur at h
  split at h
  · cases h; exact hk x hx
  · cases h
noncomputable def R_154 : { P : SP // WSs (nkD Fs_154.names none (Fq_154 ++ ".<locals>.")) 0 8 Fb_154 P } := ⟨_,
  (WSs.cons (WS.asgA (WE.loc rfl (by decide)) (WE.loc rfl (by decide)) as_185_octets fun _ => rfl)
    (WSs.cons (WS.asgA (WE.loc rfl (by decide)) (WE.loc rfl (by decide)) as_185_at fun _ => rfl)
    WSs.nil))⟩
set_option tactic.hygienic true in
theorem D_154 : DefAt 154 Fq_154 Fp_154 Fb_154 Fs_154 bsCur none where
  at_ := fun w => ⟨_, _, _, _, _, _, _, _, _, _, _, rfl, by unfold KF; k_is, (fun _ e => by cases e), fun s vs ds b K rs h => by
    unfold bsCur at h
    split at h
    · rename_i a b
      obtain ⟨v1, r1, rfl, x1, y1⟩ := VRs.cons_inv rs
      obtain ⟨v2, r2, rfl, x2, y2⟩ := VRs.cons_inv y1
      cases VRs.nil_inv y2
      cases h
      exact ⟨[("self", v1), ("octets", v2), ("at", .int 0 365)], BindsTo.of_defaults rfl (K 147 _ rfl) rfl rfl rfl, .cons x1 (.cons x2 (.cons (.int 0 _) .nil))⟩
    · cases h⟩
  co := rfl
  gen := rfl
  kind := rfl
  nd := by decide
  kinds := bsCur_kinds (by decide)
@[irreducible] noncomputable def P_154 : FP := pDef Fs_154.names bsCur R_154.1
theorem F_154 : SndFc 1 (.ref 154) P_154 := by unfold P_154; exact mkF R_154 D_154
noncomputable def R_104 : { P : SP // WSsR (nkD Fs_104.names none (Fq_104 ++ ".<locals>.")) 0 8 Fb_104 P } := ⟨_,
  (WSsR.cons (WSR.asgA (WER.call rfl g_bytearray (by decide) SndFR.barr (KOk.ty _) WEs.nil) (WE.loc rfl (by decide)) as_135_octets fun _ => rfl)
    (WSs.nil).r)⟩
theorem D_104 : DefAt 104 Fq_104 Fp_104 Fb_104 Fs_104 (bsPlain ["self"]) none where
  at_ := fun w => ⟨_, _, _, _, _, _, _, _, _, _, _, rfl, by unfold KF; k_is, (fun _ e => by cases e), fun s vs ds b K rs h => bsPlain_ok (w := w) (by exact lenS fun _ => len0 (BindsTo.of_eq rfl)) rs h⟩
  co := rfl
  gen := rfl
  kind := rfl
  nd := by decide
  kinds := bsPlain_kinds (by decide)
@[irreducible] noncomputable def P_104 : FP := pDef Fs_104.names (bsPlain ["self"]) R_104.1
theorem F_104 : SndFcR 1 (.ref 104) P_104 := by unfold P_104; exact mkFR R_104 D_104
theorem N_185 : SndF 2 (.ref 185) (fNew 185 P_154) := SndF.new mo_185 F_154
theorem N_135 : SndFR 2 (.ref 135) (fNew 135 P_104) := SndFR.new mo_135 F_104
noncomputable def R_111 : { P : SP // WSsR (nkD Fs_111.names none (Fq_111 ++ ".<locals>.")) 3 8 Fb_111 P } := ⟨_,
  (WSsR.cons (WSR.expr (WER.methB (WE.attr (WE.loc rfl (by decide)) (ak_135_octets) fun _ => rfl) (WEs.cons (WE.call rfl g_octets_of (by decide) (((F_80).up (by decide)).f) (k_octets_of) (WEs.cons (WE.loc rfl (by decide)) (WEs.cons (WE.loc rfl (by decide)) WEs.nil rfl) rfl)) WEs.nil rfl) SndFR.extend plainAttrs_bytearray BF.slot_extend type_ba_extend (fun _ => rfl) (by decide) rfl) fun _ => rfl)
    (WSs.nil).r)⟩
theorem D_111 : DefAt 111 Fq_111 Fp_111 Fb_111 Fs_111 (bsPlain ["self", "number", "size"]) none where
  at_ := fun w => ⟨_, _, _, _, _, _, _, _, _, _, _, rfl, by unfold KF; k_is, (fun _ e => by cases e), fun s vs ds b K rs h => bsPlain_ok (w := w) (by exact lenS fun _ => lenS fun _ => lenS fun _ => len0 (BindsTo.of_eq rfl)) rs h⟩
  co := rfl
  gen := rfl
  kind := rfl
  nd := by decide
  kinds := bsPlain_kinds (by decide)
@[irreducible] noncomputable def P_111 : FP := pDef Fs_111.names (bsPlain ["self", "number", "size"]) R_111.1
theorem F_111 : SndFcR 4 (.ref 111) P_111 := by unfold P_111; exact mkFR R_111 D_111
noncomputable def R_267 : { P : SP // WSsR (nkD Fs_267.names none (Fq_267 ++ ".<locals>.")) 4 8 Fb_267 P } := ⟨_,
  (WSsR.cons (WSR.asg (WER.call rfl g_Sink (by decide) (N_135.up (by decide)) (k_Sink) WEs.nil) rfl fun _ => rfl)
    (WSsR.cons (WSR.expr (WER.meth (WE.loc rfl (by decide)) (WEs.cons (WE.meth (WE.loc rfl (by decide)) WEs.nil mk_256_many (((F_243).up (by decide)).f) k_Dedup_many (fun _ => rfl) (by decide) rfl) (WEs.cons WE.int WEs.nil rfl) rfl) mk_135_number (((F_111).up (by decide)).f) k_Sink_number (fun _ => rfl) (by decide) rfl) fun _ => rfl)
    (WSsR.cons (WSR.for_ (.tp (.cons (.cons (.cons (.cons .nil)))) (KsOk.cons rfl (KsOk.cons rfl (KsOk.cons rfl (KsOk.cons rfl KsOk.nil))))) (WE.meth (WE.loc rfl (by decide)) WEs.nil mk_256_rows (((F_253).up (by decide)).f) k_Dedup_rows (fun _ => rfl) (by decide) rfl) (WSsR.cons (WSR.for_ (.nm rfl) (WE.item (WE.loc rfl (by decide)) WE.int) (WSsR.cons (WSR.expr (WER.meth (WE.loc rfl (by decide)) (WEs.cons (WE.loc rfl (by decide)) (WEs.cons WE.int WEs.nil rfl) rfl) mk_135_number (((F_111).up (by decide)).f) k_Sink_number (fun _ => rfl) (by decide) rfl) fun _ => rfl)
    (WSs.nil).r) fun _ _ => rfl)
    (WSsR.cons (WSR.expr (WER.meth (WE.loc rfl (by decide)) (WEs.cons (WE.item (WE.loc rfl (by decide)) WE.int) (WEs.cons WE.int WEs.nil rfl) rfl) mk_135_number (((F_111).up (by decide)).f) k_Sink_number (fun _ => rfl) (by decide) rfl) fun _ => rfl)
    (WSsR.cons (WSR.expr (WER.meth (WE.loc rfl (by decide)) (WEs.cons (WE.item (WE.loc rfl (by decide)) WE.int) (WEs.cons WE.int WEs.nil rfl) rfl) mk_135_number (((F_111).up (by decide)).f) k_Sink_number (fun _ => rfl) (by decide) rfl) fun _ => rfl)
    (WSsR.cons (WSR.expr (WER.meth (WE.loc rfl (by decide)) (WEs.cons (WE.item (WE.loc rfl (by decide)) WE.int) (WEs.cons WE.int WEs.nil rfl) rfl) mk_135_number (((F_111).up (by decide)).f) k_Sink_number (fun _ => rfl) (by decide) rfl) fun _ => rfl)
    (WSsR.cons (WSR.expr (WER.meth (WE.loc rfl (by decide)) (WEs.cons (WE.loc rfl (by decide)) (WEs.cons WE.int WEs.nil rfl) rfl) mk_135_number (((F_111).up (by decide)).f) k_Sink_number (fun _ => rfl) (by decide) rfl) fun _ => rfl)
    (WSsR.cons (WSR.expr (WER.meth (WE.loc rfl (by decide)) (WEs.cons (WE.loc rfl (by decide)) (WEs.cons WE.int WEs.nil rfl) rfl) mk_135_number (((F_111).up (by decide)).f) k_Sink_number (fun _ => rfl) (by decide) rfl) fun _ => rfl)
    (WSsR.cons (WSR.expr (WER.meth (WE.loc rfl (by decide)) (WEs.cons (WE.call rfl g_len (by decide) SndF.len (KOk.bi _) (WEs.cons (WE.loc rfl (by decide)) WEs.nil rfl)) (WEs.cons WE.int WEs.nil rfl) rfl) mk_135_number (((F_111).up (by decide)).f) k_Sink_number (fun _ => rfl) (by decide) rfl) fun _ => rfl)
    (WSsR.cons (WSR.for_ (.tp (.cons (.cons (.cons .nil))) (KsOk.cons rfl (KsOk.cons rfl (KsOk.cons rfl KsOk.nil)))) (WE.loc rfl (by decide)) (WSsR.cons (WSR.expr (WER.meth (WE.loc rfl (by decide)) (WEs.cons (WE.loc rfl (by decide)) (WEs.cons WE.int WEs.nil rfl) rfl) mk_135_number (((F_111).up (by decide)).f) k_Sink_number (fun _ => rfl) (by decide) rfl) fun _ => rfl)
    (WSsR.cons (WSR.expr (WER.meth (WE.loc rfl (by decide)) (WEs.cons (WE.loc rfl (by decide)) (WEs.cons WE.int WEs.nil rfl) rfl) mk_135_number (((F_111).up (by decide)).f) k_Sink_number (fun _ => rfl) (by decide) rfl) fun _ => rfl)
    (WSsR.cons (WSR.expr (WER.meth (WE.loc rfl (by decide)) (WEs.cons (WE.loc rfl (by decide)) (WEs.cons WE.int WEs.nil rfl) rfl) mk_135_number (((F_111).up (by decide)).f) k_Sink_number (fun _ => rfl) (by decide) rfl) fun _ => rfl)
    (WSs.nil).r))) fun _ _ => rfl)
    (WSs.nil).r)))))))) fun _ _ => rfl)
    ((WSs.cons (WS.ret (WE.meth (WE.loc rfl (by decide)) WEs.nil mk_135_whole (((F_132).up (by decide)).f) k_Sink_whole (fun _ => rfl) (by decide) rfl))
    WSs.nil)).r)))⟩
theorem D_267 : DefAt 267 Fq_267 Fp_267 Fb_267 Fs_267 (bsPlain ["table"]) none where
  at_ := fun w => ⟨_, _, _, _, _, _, _, _, _, _, _, rfl, by unfold KF; k_is, (fun _ e => by cases e), fun s vs ds b K rs h => bsPlain_ok (w := w) (by exact lenS fun _ => len0 (BindsTo.of_eq rfl)) rs h⟩
  co := rfl
  gen := rfl
  kind := rfl
  nd := by decide
  kinds := bsPlain_kinds (by decide)
@[irreducible] noncomputable def P_267 : FP := pDef Fs_267.names (bsPlain ["table"]) R_267.1
theorem F_267 : SndFcR 5 (.ref 267) P_267 := by unfold P_267; exact mkFR R_267 D_267
noncomputable def R_272 : { P : SP // WSs (nkD Fs_272.names none (Fq_272 ++ ".<locals>.")) 4 8 Fb_272 P } := ⟨_,
  (WSs.cons (WS.asgT (WE.tuple (WEs.cons (WE.call rfl g_Cursor (by decide) (N_185.up (by decide)) (k_Cursor) (WEs.cons (WE.loc rfl (by decide)) WEs.nil rfl)) (WEs.cons (WE.call rfl g_Dedup (by decide) (N_256.up (by decide)) (k_Dedup) WEs.nil) (WEs.cons WE.none WEs.nil rfl) rfl) rfl)) (.cons (.cons (.cons .nil))) (KsOk.cons rfl (KsOk.cons rfl (KsOk.cons rfl KsOk.nil))) (fun _ => rfl) (fun X fm => swN3 fm rfl rfl))
    (WSs.cons (WS.for_ (.nm rfl) (WE.call rfl g_range (by decide) SndF.range (KOk.ty _) (WEs.cons (WE.meth (WE.cel rfl (by decide) (by decide)) (WEs.cons WE.int WEs.nil rfl) mk_185_number (((F_175).up (by decide)).f) k_Cursor_number (fun _ => rfl) (by decide) rfl) WEs.nil rfl)) (WSs.cons (WS.asg (WE.call rfl g_tuple (by decide) SndF.tuple (KOk.ty _) (WEs.cons (WE.comp rfl (by decide) (by decide) (.nm rfl) (WE.call rfl g_range (by decide) SndF.range (KOk.ty _) (WEs.cons WE.int WEs.nil rfl)) (WE.meth (WE.fre rfl (by decide) (by decide)) (WEs.cons WE.int WEs.nil rfl) mk_185_number (((F_175).up (by decide)).f) k_Cursor_number (fun _ => rfl) (by decide) rfl) (fun _ _ => rfl)) WEs.nil rfl)) rfl fun _ => rfl)
    (WSs.cons (WS.swap (WE.tuple (WEs.cons (WE.meth (WE.cel rfl (by decide) (by decide)) (WEs.cons WE.int WEs.nil rfl) mk_185_number (((F_175).up (by decide)).f) k_Cursor_number (fun _ => rfl) (by decide) rfl) (WEs.cons (WE.meth (WE.cel rfl (by decide) (by decide)) (WEs.cons WE.int WEs.nil rfl) mk_185_number (((F_175).up (by decide)).f) k_Cursor_number (fun _ => rfl) (by decide) rfl) WEs.nil rfl) rfl)) (KsOk.cons rfl (KsOk.cons rfl KsOk.nil)) (fun _ => rfl) (fun X fm => sw2 fm rfl rfl (by decide) rfl rfl rfl rfl))
    (WSs.cons (WS.asg (WE.tuple (WEs.cons (WE.loc rfl (by decide)) (WEs.cons (WE.loc rfl (by decide)) (WEs.cons (WE.loc rfl (by decide)) (WEs.cons (WE.meth (WE.cel rfl (by decide) (by decide)) (WEs.cons WE.int WEs.nil rfl) mk_185_number (((F_175).up (by decide)).f) k_Cursor_number (fun _ => rfl) (by decide) rfl) WEs.nil rfl) rfl) rfl) rfl)) rfl fun _ => rfl)
    (WSs.cons (WS.swap (WE.tuple (WEs.cons (WE.meth (WE.cel rfl (by decide) (by decide)) (WEs.cons WE.int WEs.nil rfl) mk_185_number (((F_175).up (by decide)).f) k_Cursor_number (fun _ => rfl) (by decide) rfl) (WEs.cons (WE.meth (WE.cel rfl (by decide) (by decide)) (WEs.cons WE.int WEs.nil rfl) mk_185_number (((F_175).up (by decide)).f) k_Cursor_number (fun _ => rfl) (by decide) rfl) WEs.nil rfl) rfl)) (KsOk.cons rfl (KsOk.cons rfl KsOk.nil)) (fun _ => rfl) (fun X fm => sw2 fm rfl rfl (by decide) rfl rfl rfl rfl))
    (WSs.cons (WS.asg (WE.call rfl g_tuple (by decide) SndF.tuple (KOk.ty _) (WEs.cons (WE.comp rfl (by decide) (by decide) (.nm rfl) (WE.call rfl g_range (by decide) SndF.range (KOk.ty _) (WEs.cons (WE.meth (WE.cel rfl (by decide) (by decide)) (WEs.cons WE.int WEs.nil rfl) mk_185_number (((F_175).up (by decide)).f) k_Cursor_number (fun _ => rfl) (by decide) rfl) WEs.nil rfl)) (WE.tuple (WEs.cons (WE.meth (WE.fre rfl (by decide) (by decide)) (WEs.cons WE.int WEs.nil rfl) mk_185_number (((F_175).up (by decide)).f) k_Cursor_number (fun _ => rfl) (by decide) rfl) (WEs.cons (WE.meth (WE.fre rfl (by decide) (by decide)) (WEs.cons WE.int WEs.nil rfl) mk_185_number (((F_175).up (by decide)).f) k_Cursor_number (fun _ => rfl) (by decide) rfl) (WEs.cons (WE.meth (WE.fre rfl (by decide) (by decide)) (WEs.cons WE.int WEs.nil rfl) mk_185_number (((F_175).up (by decide)).f) k_Cursor_number (fun _ => rfl) (by decide) rfl) WEs.nil rfl) rfl) rfl)) (fun _ _ => rfl)) WEs.nil rfl)) rfl fun _ => rfl)
    (WSs.cons (WS.if_ (WB.or3 (WB.and_ (WB.cmp (WE.loc rfl (by decide)) WE.none rfl) (WB.cmp (WE.loc rfl (by decide)) (WE.loc rfl (by decide)) rfl)) (WB.cmp (WE.loc rfl (by decide)) WE.int rfl) (WB.not_ (WB.chain WE.int (WE.call rfl g_len (by decide) SndF.len (KOk.bi _) (WEs.cons (WE.loc rfl (by decide)) WEs.nil rfl)) WE.int rfl))) (WSs.cons (WS.raise (WE.call rfl g_Corrupt (by decide) (N_44.up (by decide)) (k_Corrupt) (WEs.cons WE.str WEs.nil rfl)))
    WSs.nil) WSs.nil)
    (WSs.cons (WS.asgI (WE.tuple (WEs.cons (WE.loc rfl (by decide)) (WEs.cons (WE.loc rfl (by decide)) (WEs.cons (WE.loc rfl (by decide)) WEs.nil rfl) rfl) rfl)) (WE.attr (WE.loc rfl (by decide)) (ak_256_entries) fun _ => rfl) (WE.loc rfl (by decide)) fun _ => rfl)
    (WSs.cons (WS.asg (WE.loc rfl (by decide)) rfl fun _ => rfl)
    WSs.nil)))))))) fun _ _ => rfl)
    (WSs.cons (WS.ret (WE.loc rfl (by decide)))
    WSs.nil)))⟩
theorem D_272 : DefAt 272 Fq_272 Fp_272 Fb_272 Fs_272 (bsPlain ["octets"]) none where
  at_ := fun w => ⟨_, _, _, _, _, _, _, _, _, _, _, rfl, by unfold KF; k_is, (fun _ e => by cases e), fun s vs ds b K rs h => bsPlain_ok (w := w) (by exact lenS fun _ => len0 (BindsTo.of_eq rfl)) rs h⟩
  co := rfl
  gen := rfl
  kind := rfl
  nd := by decide
  kinds := bsPlain_kinds (by decide)
@[irreducible] noncomputable def P_272 : FP := pDef Fs_272.names (bsPlain ["octets"]) R_272.1
theorem F_272 : SndFc 5 (.ref 272) P_272 := by unfold P_272; exact mkF R_272 D_272
noncomputable def R_310 : { P : SP // WSs (nkD Fs_310.names (some 309) (Fq_310 ++ ".<locals>.")) 7 8 Fb_310 P } := ⟨_,
  (WSs.cons (WS.asgT (WE.tuple (WEs.cons (WE.call rfl g__law_key (by decide) (((F_279).up (by decide)).f) (k__law_key) (WEs.cons (WE.loc rfl (by decide)) WEs.nil rfl)) (WEs.cons (WE.bin (WE.loc rfl (by decide)) WE.int) WEs.nil rfl) rfl)) (.cons (.cons .nil)) (KsOk.cons rfl (KsOk.cons rfl KsOk.nil)) (fun _ => rfl) (fun X fm => swN1 fm rfl rfl))
    (WSs.cons (WS.if_ (WB.cmp (WE.loc rfl (by decide)) WE.int rfl) (WSs.cons (WS.asg (WE.ifexp (WB.cmp (WE.cel rfl (by decide) (by decide)) (WE.loc rfl (by decide)) rfl) (WE.call rfl g_tuple (by decide) SndF.tuple (KOk.ty _) (WEs.cons (WE.slice (WE.item (WE.loc rfl (by decide)) (WE.cel rfl (by decide) (by decide))) WP.none (WP.some WE.int)) WEs.nil rfl)) WE.none) rfl fun _ => rfl)
    (WSs.cons (WS.asg (WE.list (WEs.cons (WE.meth (WE.cel rfl (by decide) (by decide)) (WEs.cons (WE.item (WE.cel rfl (by decide) (by decide)) WE.int) (WEs.cons (WE.item (WE.cel rfl (by decide) (by decide)) WE.int) (WEs.cons (WE.item (WE.cel rfl (by decide) (by decide)) WE.int) (WEs.cons (WE.item (WE.cel rfl (by decide) (by decide)) WE.int) WEs.nil rfl) rfl) rfl) rfl) mk_256_find (((F_217).up (by decide)).f) k_Dedup_find (fun _ => rfl) (by decide) rfl) (WEs.cons (WE.meth (WE.cel rfl (by decide) (by decide)) (WEs.cons (WE.item (WE.cel rfl (by decide) (by decide)) WE.int) (WEs.cons (WE.item (WE.cel rfl (by decide) (by decide)) WE.int) (WEs.cons (WE.item (WE.cel rfl (by decide) (by decide)) WE.int) (WEs.cons (WE.item (WE.cel rfl (by decide) (by decide)) WE.int) WEs.nil rfl) rfl) rfl) rfl) mk_256_wanted (((F_224).up (by decide)).f) k_Dedup_wanted (fun _ => rfl) (by decide) rfl) WEs.nil rfl) rfl)) rfl fun _ => rfl)
    (WSs.cons (WS.ret (WE.cmp (WE.loc rfl (by decide)) (WE.list (WEs.cons (WE.loc rfl (by decide)) (WEs.cons (WE.ifexp (WB.cmp (WE.cel rfl (by decide) (by decide)) (WE.loc rfl (by decide)) rfl) (WE.item (WE.item (WE.loc rfl (by decide)) (WE.cel rfl (by decide) (by decide))) WE.int) WE.int) WEs.nil rfl) rfl)) rfl))
    WSs.nil))) WSs.nil)
    (WSs.cons (WS.if_ (WB.cmp (WE.loc rfl (by decide)) WE.int rfl) (WSs.cons (WS.asg (WE.ifexp (WB.cmp (WE.cel rfl (by decide) (by decide)) (WE.loc rfl (by decide)) rfl) WE.str (WE.cmp (WE.item (WE.item (WE.loc rfl (by decide)) (WE.cel rfl (by decide) (by decide))) WE.int) WE.int rfl)) rfl fun _ => rfl)
    (WSs.cons (WS.if_ (WB.cmp (WE.loc rfl (by decide)) WE.str rfl) (WSs.cons (WS.asgI (WE.bin (WE.item (WE.item (WE.loc rfl (by decide)) (WE.cel rfl (by decide) (by decide))) WE.int) WE.int) (WE.item (WE.loc rfl (by decide)) (WE.cel rfl (by decide) (by decide))) WE.int fun _ => rfl)
    WSs.nil) WSs.nil)
    (WSs.cons (WS.if_ (WB.cmp (WE.loc rfl (by decide)) WE.bool rfl) (WSs.cons (WS.expr (WE.methB (WE.loc rfl (by decide)) (WEs.cons (WE.cel rfl (by decide) (by decide)) WEs.nil rfl) SndF.pop PySem.F.plainAttrs_dict PySem.F.slot_dict_pop rfl (fun _ => rfl) (by decide) rfl) fun _ => rfl)
    WSs.nil) WSs.nil)
    (WSs.cons (WS.ret (WE.cmp (WE.call rfl g__law_told (by decide) (((F_303).up (by decide)).f) (k__law_told) (WEs.cons (WE.lamP (m := 5) rfl (.head _) rfl rfl rfl (by decide) (WE.meth (WE.fre rfl (by decide) (by decide)) (WEs.cons (WE.item (WE.fre rfl (by decide) (by decide)) WE.int) (WEs.cons (WE.item (WE.fre rfl (by decide) (by decide)) WE.int) (WEs.cons (WE.item (WE.fre rfl (by decide) (by decide)) WE.int) (WEs.cons (WE.item (WE.fre rfl (by decide) (by decide)) WE.int) WEs.nil rfl) rfl) rfl) rfl) mk_256_drop (((F_236).up (by decide)).f) k_Dedup_drop (fun _ => rfl) (by decide) rfl)) WEs.nil rfl)) (WE.loc rfl (by decide)) rfl))
    WSs.nil)))) WSs.nil)
    (WSs.cons (WS.asgT (WE.tuple (WEs.cons (WE.call rfl g__law_places (by decide) (((F_286).up (by decide)).f) (k__law_places) (WEs.cons (WE.ifexp (WB.cmp (WE.loc rfl (by decide)) WE.int rfl) (WE.bin (WE.loc rfl (by decide)) WE.int) (WE.loc rfl (by decide))) WEs.nil rfl)) (WEs.cons (WE.ifexp (WB.cmp (WE.loc rfl (by decide)) WE.int rfl) (WE.bin WE.int (WE.bin (WE.loc rfl (by decide)) WE.int)) WE.int) WEs.nil rfl) rfl)) (.cons (.cons .nil)) (KsOk.cons rfl (KsOk.cons rfl KsOk.nil)) (fun _ => rfl) (fun X fm => swN1 fm rfl rfl))
    (WSs.cons (WS.if_ (WB.and_ (WB.cmp (WE.loc rfl (by decide)) WE.int rfl) (WB.cmp (WE.cel rfl (by decide) (by decide)) (WE.loc rfl (by decide)) rfl)) (WSs.cons (WS.asgT (WE.tuple (WEs.cons (WE.item (WE.item (WE.loc rfl (by decide)) (WE.cel rfl (by decide) (by decide))) WE.int) (WEs.cons (WE.item (WE.item (WE.loc rfl (by decide)) (WE.cel rfl (by decide) (by decide))) WE.int) WEs.nil rfl) rfl)) (.cons (.cons .nil)) (KsOk.cons rfl (KsOk.cons rfl KsOk.nil)) (fun _ => rfl) (fun X fm => swN1 fm rfl rfl))
    WSs.nil) WSs.nil)
    (WSs.cons (WS.asg (WE.ifexp (WB.and_ (WB.cmp (WE.cel rfl (by decide) (by decide)) (WE.loc rfl (by decide)) rfl) (WB.cmp (WE.slice (WE.item (WE.loc rfl (by decide)) (WE.cel rfl (by decide) (by decide))) WP.none (WP.some WE.int)) (WE.list (WEs.cons (WE.cel rfl (by decide) (by decide)) (WEs.cons (WE.cel rfl (by decide) (by decide)) WEs.nil rfl) rfl)) rfl)) WE.str WE.none) rfl fun _ => rfl)
    (WSs.cons (WS.if_ (WB.cmp (WE.loc rfl (by decide)) WE.none rfl) (WSs.cons (WS.asgI (WE.list (WEs.cons (WE.cel rfl (by decide) (by decide)) (WEs.cons (WE.cel rfl (by decide) (by decide)) (WEs.cons (WE.ifexp (WB.cmp (WE.cel rfl (by decide) (by decide)) (WE.loc rfl (by decide)) rfl) (WE.bin (WE.item (WE.item (WE.loc rfl (by decide)) (WE.cel rfl (by decide) (by decide))) WE.int) WE.int) WE.int) WEs.nil rfl) rfl) rfl)) (WE.loc rfl (by decide)) (WE.cel rfl (by decide) (by decide)) fun _ => rfl)
    WSs.nil) WSs.nil)
    (WSs.cons (WS.ret (WE.cmp (WE.call rfl g__law_told (by decide) (((F_303).up (by decide)).f) (k__law_told) (WEs.cons (WE.lamP (m := 5) rfl (.head _) rfl rfl rfl (by decide) (WE.meth (WE.fre rfl (by decide) (by decide)) (WEs.cons (WE.item (WE.fre rfl (by decide) (by decide)) WE.int) (WEs.cons (WE.item (WE.fre rfl (by decide) (by decide)) WE.int) (WEs.cons (WE.item (WE.fre rfl (by decide) (by decide)) WE.int) (WEs.cons (WE.item (WE.fre rfl (by decide) (by decide)) WE.int) (WEs.cons (WE.comp rfl (by decide) (by decide) (.nm rfl) (WE.fre rfl (by decide) (by decide)) (WE.call rfl g_list (by decide) SndF.list (KOk.ty _) (WEs.cons (WE.loc rfl (by decide)) WEs.nil rfl)) (fun _ _ => rfl)) (WEs.cons (WE.fre rfl (by decide) (by decide)) WEs.nil rfl) rfl) rfl) rfl) rfl) rfl) mk_256_add (((F_229).up (by decide)).f) k_Dedup_add (fun _ => rfl) (by decide) rfl)) WEs.nil rfl)) (WE.loc rfl (by decide)) rfl))
    WSs.nil))))))))⟩
theorem D_310 : DefAt 310 Fq_310 Fp_310 Fb_310 Fs_310 (bsPlain ["table", "world", "x", "y", "z"]) (some 309) where
  at_ := fun w => ⟨_, _, _, _, _, _, _, _, _, _, _, rfl, by unfold KF; k_is, (fun _ e => by cases e; rfl), fun s vs ds b K rs h => bsPlain_ok (w := w) (by exact lenS fun _ => lenS fun _ => lenS fun _ => lenS fun _ => lenS fun _ => len0 (BindsTo.of_eq rfl)) rs h⟩
  co := rfl
  gen := rfl
  kind := rfl
  nd := by decide
  kinds := bsPlain_kinds (by decide)
@[irreducible] noncomputable def P_310 : FP := pDef Fs_310.names (bsPlain ["table", "world", "x", "y", "z"]) R_310.1
theorem F_310 : SndFc 8 (.ref 310) P_310 := by unfold P_310; exact mkF R_310 D_310
noncomputable def R_322 : { P : SP // WSsR (nkD Fs_322.names (some 321) (Fq_322 ++ ".<locals>.")) 8 8 Fb_322 P } := ⟨_,
  (WSsR.cons ((WS.asg (WE.slice (WE.loc rfl (by decide)) WP.none (WP.some WE.int)) rfl fun _ => rfl)).r
    (WSsR.cons ((WS.swap (WE.tuple (WEs.cons (WE.call rfl g_Dedup (by decide) (N_256.up (by decide)) (k_Dedup) WEs.nil) (WEs.cons WE.dict0 WEs.nil rfl) rfl)) (KsOk.cons rfl (KsOk.cons rfl KsOk.nil)) (fun _ => rfl) (fun X fm => sw2 fm rfl rfl (by decide) rfl rfl rfl rfl))).r
    (WSsR.cons ((WS.if_ (WB.or_ (WB.val (WE.attr (WE.loc rfl (by decide)) (ak_256_is_changed) fun _ => rfl) fun _ _ => rfl) (WB.not_ (WB.val (WE.call rfl g__law_is_same (by decide) (((F_315).up (by decide)).f) (k__law_is_same) (WEs.cons (WE.loc rfl (by decide)) (WEs.cons (WE.loc rfl (by decide)) WEs.nil rfl) rfl)) fun _ _ => rfl))) (WSs.cons (WS.ret WE.bool)
    WSs.nil) WSs.nil)).r
    (WSsR.cons ((WS.asg (WE.bin (WE.call rfl g_list (by decide) SndF.list (KOk.ty _) (WEs.cons (WE.slice (WE.loc rfl (by decide)) WP.none (WP.some WE.int)) WEs.nil rfl)) (WE.list (WEs.cons WE.int (WEs.cons WE.int (WEs.cons WE.int (WEs.cons WE.int (WEs.cons WE.int (WEs.cons WE.int WEs.nil rfl) rfl) rfl) rfl) rfl) rfl))) rfl fun _ => rfl)).r
    (WSsR.cons ((WS.for_ (.nm rfl) (WE.call rfl g_range (by decide) SndF.range (KOk.ty _) (WEs.cons (WE.bin (WE.call rfl g_len (by decide) SndF.len (KOk.bi _) (WEs.cons (WE.loc rfl (by decide)) WEs.nil rfl)) WE.int) WEs.nil rfl)) (WSs.cons (WS.asgT (WE.slice (WE.loc rfl (by decide)) (WP.some (WE.bin WE.int (WE.loc rfl (by decide)))) (WP.some (WE.bin (WE.bin WE.int (WE.loc rfl (by decide))) WE.int))) (.cons (.cons (.cons .nil))) (KsOk.cons rfl (KsOk.cons rfl (KsOk.cons rfl KsOk.nil))) (fun _ => rfl) (fun _ _ => rfl))
    (WSs.cons (WS.if_ (WB.or_ (WB.not_ (WB.val (WE.call rfl g__law_deed (by decide) (((F_310).up (by decide)).f) (k__law_deed) (WEs.cons (WE.loc rfl (by decide)) (WEs.cons (WE.loc rfl (by decide)) (WEs.cons (WE.loc rfl (by decide)) (WEs.cons (WE.loc rfl (by decide)) (WEs.cons (WE.loc rfl (by decide)) WEs.nil rfl) rfl) rfl) rfl) rfl)) fun _ _ => rfl)) (WB.not_ (WB.val (WE.call rfl g__law_is_same (by decide) (((F_315).up (by decide)).f) (k__law_is_same) (WEs.cons (WE.loc rfl (by decide)) (WEs.cons (WE.loc rfl (by decide)) WEs.nil rfl) rfl)) fun _ _ => rfl))) (WSs.cons (WS.ret WE.bool)
    WSs.nil) WSs.nil)
    WSs.nil)) fun _ _ => rfl)).r
    (WSsR.cons (WSR.asg (WER.call rfl g_table_octets (by decide) (((F_267).up (by decide)).f) (k_table_octets) (WEs.cons (WE.loc rfl (by decide)) WEs.nil rfl)) rfl fun _ => rfl)
    ((WSs.cons (WS.if_ (WB.or_ (WB.cmp (WE.cel rfl (by decide) (by decide)) (WE.call rfl g__law_octets (by decide) (((F_296).up (by decide)).f) (k__law_octets) (WEs.cons (WE.meth (WE.loc rfl (by decide)) WEs.nil mk_256_rows (((F_253).up (by decide)).f) k_Dedup_rows (fun _ => rfl) (by decide) rfl) WEs.nil rfl)) rfl) (WB.not_ (WB.val (WE.attr (WE.loc rfl (by decide)) (ak_256_is_changed) fun _ => rfl) fun _ _ => rfl))) (WSs.cons (WS.ret WE.bool)
    WSs.nil) WSs.nil)
    (WSs.cons (WS.for_ (.nm rfl) (WE.tuple (WEs.cons (WE.cel rfl (by decide) (by decide)) (WEs.cons (WE.bin (WE.cel rfl (by decide) (by decide)) (WE.call rfl g_bytes (by decide) SndF.bytes (KOk.ty _) (WEs.cons (WE.bin (WE.call rfl g_sum (by decide) SndF.sum (KOk.bi _) (WEs.cons (WE.loc rfl (by decide)) WEs.nil rfl)) WE.int) WEs.nil rfl))) WEs.nil rfl) rfl)) (WSs.cons (WS.asg (WE.call rfl g_table_of (by decide) (((F_272).up (by decide)).f) (k_table_of) (WEs.cons (WE.loc rfl (by decide)) WEs.nil rfl)) rfl fun _ => rfl)
    (WSs.cons (WS.if_ (WB.or_ (WB.cmp (WE.meth (WE.loc rfl (by decide)) WEs.nil mk_256_rows (((F_253).up (by decide)).f) k_Dedup_rows (fun _ => rfl) (by decide) rfl) (WE.meth (WE.loc rfl (by decide)) WEs.nil mk_256_rows (((F_253).up (by decide)).f) k_Dedup_rows (fun _ => rfl) (by decide) rfl) rfl) (WB.val (WE.attr (WE.loc rfl (by decide)) (ak_256_is_changed) fun _ => rfl) fun _ _ => rfl)) (WSs.cons (WS.ret WE.bool)
    WSs.nil) WSs.nil)
    WSs.nil)) fun _ _ => rfl)
    (WSs.cons (WS.asg (WE.bin (WE.call rfl g_sum (by decide) SndF.sum (KOk.bi _) (WEs.cons (WE.loc rfl (by decide)) WEs.nil rfl)) (WE.call rfl g_len (by decide) SndF.len (KOk.bi _) (WEs.cons (WE.cel rfl (by decide) (by decide)) WEs.nil rfl))) rfl fun _ => rfl)
    (WSs.cons (WS.ret (WE.cmp (WE.call rfl g__law_told (by decide) (((F_303).up (by decide)).f) (k__law_told) (WEs.cons (WE.lamP (m := 5) rfl (.tail _ (.head _)) rfl rfl rfl (by decide) (WE.call rfl g_table_of (by decide) (((F_272).up (by decide)).f) (k_table_of) (WEs.cons (WE.slice (WE.fre rfl (by decide) (by decide)) WP.none (WP.some (WE.fre rfl (by decide) (by decide)))) WEs.nil rfl))) WEs.nil rfl)) WE.str rfl))
    WSs.nil))))).r))))))⟩
theorem D_322 : DefAt 322 Fq_322 Fp_322 Fb_322 Fs_322 (bsPlain ["script"]) (some 321) where
  at_ := fun w => ⟨_, _, _, _, _, _, _, _, _, _, _, rfl, by unfold KF; k_is, (fun _ e => by cases e; rfl), fun s vs ds b K rs h => bsPlain_ok (w := w) (by exact lenS fun _ => len0 (BindsTo.of_eq rfl)) rs h⟩
  co := rfl
  gen := rfl
  kind := rfl
  nd := by decide
  kinds := bsPlain_kinds (by decide)
@[irreducible] noncomputable def P_322 : FP := pDef Fs_322.names (bsPlain ["script"]) R_322.1
end Mine
end F_FnC
section F_Ct1
open PySem PySem.W PySem.Spec PySem.Calls PyProof.Rows
namespace Mine
section
variable {a b B B1 B2 : SP} {c : BvP} {t : Tgt} {P : EvP} {ℓ : Lc} {σ : St} {N M : Lc → St → Prop} {R : D → St → Prop} {E : Addr → St → Prop}
theorem hSeq (h : ∀ M : Lc → St → Prop, (∀ ℓ' σ', b ℓ' σ' N R E → M ℓ' σ') → a ℓ σ M R E) : sSeq a b ℓ σ N R E := h _ fun _ _ x => x
theorem hCtx (P : Lc → Prop) (h : P ℓ) (k : ∀ ℓ', P ℓ' → M ℓ' σ) : M ℓ σ := k ℓ h
theorem hFor (h : ∀ B' : SP, (∀ ℓ σ N R E, B ℓ σ N R E → B' ℓ σ N R E) → sFor t P B' ℓ σ N R E) : sFor t P B ℓ σ N R E := h B fun _ _ _ _ _ x => x
theorem hIf (h : ∀ A1 A2 : St → Prop, (∀ σ', B1 ℓ σ' N R E → A1 σ') → (∀ σ', B2 ℓ σ' N R E → A2 σ') → c ℓ σ (fun b σ1 => if b then A1 σ1 else A2 σ1) E) : sIf c B1 B2 ℓ σ N R E := h _ _ (fun _ x => x) fun _ x => x
end
theorem toNat_inj {c d : Char} (h : c.toNat = d.toNat) : c = d := Char.ext (UInt32.toNat_inj.mp h)
theorem ofString_inj {s t : String} (h : Str.ofString s = Str.ofString t) : s = t := by
  have h1 : cpsOfBytes 0 0 s.toByteArray.data.toList = cpsOfBytes 0 0 t.toByteArray.data.toList := List.toArray_inj (congrArg Str.cps h)
  rw [cpsOfBytes_string, cpsOfBytes_string] at h1
  have : s.toList = t.toList := by
    generalize s.toList = a at h1; generalize t.toList = b at h1
    induction a generalizing b with
    | nil => cases b with | nil => rfl | cons _ _ => cases h1
    | cons x a ih => cases b with
      | nil => cases h1
      | cons y b =>
        simp only [List.map_cons, List.cons.injEq] at h1
        rw [toNat_inj h1.1, ih _ h1.2]
  exact String.toList_inj.mp this
theorem str_eq {s t : String} : (Str.ofString s = Str.ofString t) = (s = t) := propext ⟨ofString_inj, fun e => by rw [e]⟩
theorem str_beq {s t : String} : (Str.ofString s == Str.ofString t) = (s == t) := by
  by_cases h : s = t
  · subst h; simp
  · rw [beq_false_of_ne h, beq_false_of_ne fun q => h (ofString_inj q)]
theorem ss_nil {ℓ : Lc} {σ : St} {N : Lc → St → Prop} : sSets [] [] ℓ σ N = N ℓ σ := rfl
theorem ss_cons {k x ks d ds} {ℓ : Lc} {σ : St} {N : Lc → St → Prop} : sSets ((k, x) :: ks) (d :: ds) ℓ σ N = sSet k x d ℓ σ fun ℓ' σ' => sSets ks ds ℓ' σ' N := rfl
theorem loc_set {ℓ : Lc} {x y d} : (ℓ.set x d).loc y = if y = x then some d else ℓ.loc y := rfl
theorem cel_set {ℓ : Lc} {x d} : (ℓ.set x d).cel = ℓ.cel := rfl
theorem put_eq {σ : St} {a b : Addr} {o} : σ.put a o b = if b = a then some o else σ b := rfl
section
variable {ℓ : Lc} {σ : St} {N : Lc → St → Prop} {R Q : D → St → Prop} {Qs : List D → St → Prop} {Qb : Bool → St → Prop} {Qp : Option Int → St → Prop} {E : Addr → St → Prop} {s t : String} {x : Str} {d e : D} {a : Addr} {v : Option D}
theorem loc_same : (ℓ.set x d).loc x = some d := if_pos rfl
theorem loc_ne (n : s ≠ t) (h : ℓ.loc (Str.ofString s) = some d) : (ℓ.set (Str.ofString t) e).loc (Str.ofString s) = some d := (if_neg fun q => n (ofString_inj q)).trans h
theorem e_loc (h : ℓ.loc x = some d) (k : Q d σ) : pLoc x ℓ σ Q E := by unfold pLoc; rw [h]; exact k
theorem e_cel (h1 : ℓ.cel.lookup x = some a) (h2 : σ a = some (.cell (some d))) (k : Q d σ) : pCel x ℓ σ Q E := by unfold pCel; rw [h1]; dsimp only; rw [h2]; exact k
theorem e_setC (h1 : ℓ.cel.lookup x = some a) (h2 : σ a = some (.cell v)) (k : N ℓ (σ.put a (.cell (some d)))) : sSet .cel x d ℓ σ N := by unfold sSet; dsimp only; rw [h1]; dsimp only; rw [h2]; exact k
theorem e_sets0 (k : N ℓ σ) : sSets [] [] ℓ σ N := k
theorem e_sets1 {n ks ds} (k : sSet n x d ℓ σ fun ℓ' σ' => sSets ks ds ℓ' σ' N) : sSets ((n, x) :: ks) (d :: ds) ℓ σ N := k
theorem e_seq {A B : SP} (k : A ℓ σ (fun ℓ1 σ1 => B ℓ1 σ1 N R E) R E) : sSeq A B ℓ σ N R E := k
theorem e_nil (k : N ℓ σ) : sNil ℓ σ N R E := k
theorem e_ret {P : EvP} (k : P ℓ σ R E) : sRet P ℓ σ N R E := k
theorem e_if {B : BvP} {P1 P2 : SP} (k : B ℓ σ (fun b σ1 => if b then P1 ℓ σ1 N R E else P2 ℓ σ1 N R E) E) : sIf B P1 P2 ℓ σ N R E := k
theorem e_asg {n} {P : EvP} (k : P ℓ σ (fun d σ1 => sSet n x d ℓ σ1 N) E) : sAsg n x P ℓ σ N R E := k
theorem e_swap {ks} {P : EvP} (k : P ℓ σ (fun d σ1 => ∃ ds, unp d σ1 ds ∧ ds.length = ks.length ∧ sSets ks.reverse ds.reverse ℓ σ1 N) E) : sSwap ks P ℓ σ N R E := k
theorem e_asgA {C} {P Po : EvP} (k : P ℓ σ (fun d σ1 => Po ℓ σ1 (fun o σ2 => match o with
  | .ref a => ∃ td fs, σ2 a = some (.inst C td) ∧ σ2 td = some (.attrs fs) ∧ fs.length ≤ 100 ∧ N ℓ (σ2.put td (.attrs (fput x d fs)))
  | _ => False) E) E) : sAsgA C x P Po ℓ σ N R E := k
theorem e_call {F : FP} {Ps : EvsP} (k : Ps ℓ σ (fun ds σ1 => F ds σ1 Q E) E) : pCall F Ps ℓ σ Q E := k
theorem e_meth {C} {F : FP} {Po : EvP} {Ps : EvsP} (k : Po ℓ σ (fun o σ1 => match o with
  | .ref a => ∃ td fs, σ1 a = some (.inst C td) ∧ σ1 td = some (.attrs fs) ∧ fs.lookup x = none ∧ Ps ℓ σ1 (fun ds σ2 => F (.ref a :: ds) σ2 Q E) E
  | _ => False) E) : pMeth C x F Po Ps ℓ σ Q E := k
theorem e_pnil (k : Qs [] σ) : pNil ℓ σ Qs E := k
theorem e_cons {P : EvP} {Ps : EvsP} (k : P ℓ σ (fun d σ1 => Ps ℓ σ1 (fun ds σ2 => Qs (d :: ds) σ2) E) E) : pCons P Ps ℓ σ Qs E := k
theorem e_tup {Ps : EvsP} (k : Ps ℓ σ (fun ds σ' => ds.length ≤ 1000 ∧ Q (.tup ds) σ') E) : pTup Ps ℓ σ Q E := k
theorem e_list {Ps : EvsP} (k : Ps ℓ σ (fun ds σ' => ds.length ≤ 1000 ∧ ∀ a, σ' a = none → Q (.ref a) (σ'.put a (.list ds))) E) : pList Ps ℓ σ Q E := k
theorem e_int {i} (k : Q (.int i) σ) : pInt i ℓ σ Q E := k
theorem e_str (k : Q (.str x) σ) : pStr x ℓ σ Q E := k
theorem e_none (k : Q .none σ) : pNone ℓ σ Q E := k
theorem e_bool {b} (k : Q (.bool b) σ) : pBool b ℓ σ Q E := k
theorem e_cmp {op} {P1 P2 : EvP} (k : P1 ℓ σ (fun a σ1 => P2 ℓ σ1 (fun b σ2 => opCmp op a b σ2 fun r => Q (.bool r) σ2) E) E) : pCmp op P1 P2 ℓ σ Q E := k
theorem e_bcmp {op} {P1 P2 : EvP} (k : P1 ℓ σ (fun a σ1 => P2 ℓ σ1 (fun b σ2 => opCmp op a b σ2 fun r => Qb r σ2) E) E) : bCmp op P1 P2 ℓ σ Qb E := k
theorem e_or {P1 P2 : BvP} (k : P1 ℓ σ (fun b σ1 => if b then Qb true σ1 else P2 ℓ σ1 Qb E) E) : bOr P1 P2 ℓ σ Qb E := k
theorem e_item {P1 P2 : EvP} (k : P1 ℓ σ (fun a σ1 => P2 ℓ σ1 (fun b σ2 => opItem a b σ2 Q) E) E) : pItem P1 P2 ℓ σ Q E := k
end
theorem enter0 {names : List (Str × NameKind)} {xs : List Str} {P : SP} {ds : List D} {σ : St} {Q : D → St → Prop} {E : Addr → St → Prop} (hl : ds.length = xs.length) (hc : cellNames names = [])
    (h : ∀ ℓ : Lc, (∀ x d, bindLD (fun x => names.lookup x) (xs.zip ds) (fun _ => none) x = some d → ℓ.loc x = some d) → ℓ.cel = [] → P ℓ σ (fun _ σ' => Q .none σ') Q E) : pDef names (bsPlain xs) P ds σ Q E := by
  unfold pDef bsPlain
  rw [if_pos hl]
  intro cl h1 h2 h3
  rw [hc] at h1
  cases cl with
  | nil => exact h _ (fun _ _ e => e) rfl
  | cons _ _ => cases h1
section
variable {xs : List D} {b : Array UInt8} {a : Addr} {es : List (Ky × D)} {n : Int} {σ : St} {Q : D → St → Prop} {E : Addr → St → Prop}
theorem fl_lenT : fLen [.tup xs] σ Q E = (xs.length ≤ 100000 ∧ Q (.int xs.length) σ) := rfl
theorem fl_rngN {s : Nat} (k : ∀ c, σ c = none → Q (.ref c) (σ.put c (.range s))) : fRange [.int (s : Int)] σ Q E := ⟨Int.natCast_nonneg s, by rw [Int.toNat_natCast]; exact k⟩
theorem fl_lenL' (h : σ a = some (.list xs)) (k : xs.length ≤ 100000 ∧ Q (.int xs.length) σ) : fLen [.ref a] σ Q E := by delta fLen; dsimp only; rw [h]; exact k
theorem fl_lenD' (h : σ a = some (.dict es)) (k : es.length ≤ 100000 ∧ Q (.int es.length) σ) : fLen [.ref a] σ Q E := by delta fLen; dsimp only; rw [h]; exact k
theorem fl_bytA' (h : σ a = some (.barr b)) (k : b.size ≤ 100000 ∧ Q (.bytes b) σ) : fBytes [.ref a] σ Q E := by delta fBytes; dsimp only; rw [h]; exact k
theorem fl_bytL (h : σ a = some (.list xs)) : fBytes [.ref a] σ Q E = ∃ xs ns, σ a = some (.list xs) ∧ intsOf xs = some ns ∧ ns.length ≤ 100000 ∧ (∀ n ∈ ns, 0 ≤ n ∧ n < 256) ∧ Q (.bytes (byteArr ns)) σ :=
  (show fBytes [.ref a] σ Q E = fBytesInts [.ref a] σ Q E by delta fBytes; dsimp only; rw [h]).trans rfl
theorem fl_bytL' (h : σ a = some (.list xs)) (k : ∃ xs ns, σ a = some (.list xs) ∧ intsOf xs = some ns ∧ ns.length ≤ 100000 ∧ (∀ n ∈ ns, 0 ≤ n ∧ n < 256) ∧ Q (.bytes (byteArr ns)) σ) : fBytes [.ref a] σ Q E := by rw [fl_bytL h]; exact k
theorem fl_srtL' (h : σ a = some (.list xs)) (k : ∃ ks, KeyRows xs ks ∧ picked xs ks σ Q) : fSorted [.ref a] σ Q E := by delta fSorted; dsimp only; rw [h]; exact k
theorem fl_srtD (h : σ a = some (.dict es)) : fSorted [.ref a] σ Q E = picked (es.map fun e => kyD e.1) (es.map (·.1)) σ Q := by delta fSorted; dsimp only; rw [h]
theorem fl_srtD' (h : σ a = some (.dict es)) (k : picked (es.map fun e => kyD e.1) (es.map (·.1)) σ Q) : fSorted [.ref a] σ Q E := by rw [fl_srtD h]; exact k
end
noncomputable def Ext (σ σ' : St) : Prop := ∀ a o, σ a = some o → σ' a = some o
theorem Ext.refl {σ} : Ext σ σ := fun _ _ e => e
theorem Ext.trans {σ σ' σ''} (x : Ext σ σ') (y : Ext σ' σ'') : Ext σ σ'' := fun a o e => y a o (x a o e)
theorem Ext.put {σ σ' : St} {a o} (x : Ext σ σ') (h : σ a = none) : Ext σ (σ'.put a o) := fun b p e => by
  rw [put_eq, if_neg (fun q => by rw [q, h] at e; cases e)]; exact x b p e
theorem Ext.non {σ σ' : St} {a} (x : Ext σ σ') (h : σ' a = none) : σ a = none := by
  cases e : σ a with
  | none => rfl
  | some o => rw [x a o e] at h; cases h
theorem Ext.ne {σ : St} {a b o} (h : σ a = some o) (k : σ b = none) : b ≠ a := fun q => by rw [q, h] at k; cases k
noncomputable def Sub (xs : List Addr) (σ σ' : St) : Prop := ∀ a o, σ a = some o → a ∉ xs → σ' a = some o
theorem Ext.sub {σ σ' xs} (x : Ext σ σ') : Sub xs σ σ' := fun a o e _ => x a o e
theorem Sub.trans {xs σ σ' σ''} (x : Sub xs σ σ') (y : Sub xs σ' σ'') : Sub xs σ σ'' := fun a o e n => y a o (x a o e n) n
theorem Sub.put {xs} {σ σ' : St} {a o} (x : Sub xs σ σ') (h : σ a = none ∨ a ∈ xs) : Sub xs σ (σ'.put a o) := fun b p e n => by
  rw [put_eq, if_neg (fun q => by rcases h with h | h; · rw [q, h] at e; cases e
                                  · exact n (q ▸ h))]; exact x b p e n
section
variable {a b : Int} {σ : St} {Q : D → St → Prop} {N : Bool → Prop} {xs ys : List D} {x y : Array UInt8} {r r' : Addr} {s t : Str} {c c' : Bool}
theorem ob_sub : opBin .Sub (.int a) (.int b) σ Q = Q (.int (a - b)) σ := rfl
theorem ob_mod : opBin .Mod (.int a) (.int b) σ Q = (b ≠ 0 ∧ Q (.int (a.fmod b)) σ) := rfl
theorem ob_pow : opBin .Pow (.int a) (.int b) σ Q = ((0 ≤ b ∧ (Builtin.Int.intBits a : Int) * b ≤ 2 ^ 27) ∧ Q (.int (a ^ b.toNat)) σ) := rfl
theorem ob_list : opBin .Add (.ref r) (.ref r') σ Q = ∃ xs ys, σ r = some (.list xs) ∧ σ r' = some (.list ys) ∧ xs.length + ys.length ≤ 100000 ∧ ∀ c, σ c = none → Q (.ref c) (σ.put c (.list (xs ++ ys))) := rfl
theorem oc_eqI : opCmp .Eq (.int a) (.int b) σ N = N (a == b) := rfl
theorem oc_ltI : opCmp .Lt (.int a) (.int b) σ N = N (decide (a < b)) := rfl
theorem oc_leI : opCmp .LtE (.int a) (.int b) σ N = N (decide (a ≤ b)) := rfl
theorem oc_eqB : opCmp .Eq (.bool c) (.bool c') σ N = N (c == c') := rfl
theorem oc_eqS : opCmp .Eq (.str s) (.str t) σ N = N (s == t) := rfl
theorem oc_neY : opCmp .NotEq (.bytes x) (.bytes y) σ N = N (x.toList != y.toList) := rfl
theorem oc_eqR : opCmp .Eq (.ref r) (.ref r') σ N = ∃ p q, Tl σ (.ref r) p ∧ Tl σ (.ref r') q ∧ Lay 20 p ∧ Lay 20 q ∧ N (PyData.eqv p q) := rfl
theorem oc_neR : opCmp .NotEq (.ref r) (.ref r') σ N = ∃ p q, Tl σ (.ref r) p ∧ Tl σ (.ref r') q ∧ Lay 20 p ∧ Lay 20 q ∧ N (!PyData.eqv p q) := rfl
theorem oc_neT : opCmp .NotEq (.tup xs) (.tup ys) σ N = ∃ p q, Tl σ (.tup xs) p ∧ Tl σ (.tup ys) q ∧ Lay 20 p ∧ Lay 20 q ∧ N (!PyData.eqv p q) := rfl
theorem in_ok {k : Ky} {es} (hd : σ r = some (.dict es)) (h : N (es.lookup k).isSome) : opCmp .In (kyD k) (.ref r) σ N := ⟨k, es, rfl, hd, h⟩
theorem nin_ok {k : Ky} {es} (hd : σ r = some (.dict es)) (h : N (!(es.lookup k).isSome)) : opCmp .NotIn (kyD k) (.ref r) σ N := ⟨k, es, rfl, hd, h⟩
theorem oi_list : opItem (.ref r) (.int a) σ Q = ∃ xs d, σ r = some (.list xs) ∧ (0 ≤ a ∧ a < 2 ^ 63) ∧ xs[a.toNat]? = some d ∧ Q d σ := rfl
theorem item_ok {d : D} (n : Nat) (h : xs[n]? = some d) (hn : n < 1000 := by decide) (hq : Q d σ) : opItem (.tup xs) (.int (n : Int)) σ Q := ⟨d, ⟨by omega, by omega⟩, h, hq⟩
theorem key_ok {k : Ky} {es d} (hd : σ r = some (.dict es)) (hl : es.lookup k = some d) (h : Q d σ) : opItem (.ref r) (kyD k) σ Q := ⟨k, es, d, hd, rfl, hl, h⟩
theorem oset_key {k : Ky} {es d} {N : St → Prop} (hd : σ r = some (.dict es)) (hl : es.length ≤ 1000) (h : N (σ.put r (.dict (dput k d es)))) : opSetItem (.ref r) (kyD k) d σ N := ⟨k, es, hd, rfl, hl, h⟩
end
section
variable {ℓ : Lc} {σ : St} {N : Bool → Prop} {Q : D → St → Prop} {E : Addr → St → Prop}
theorem ble {n m : Nat} (h : Nat.ble n m = true) : n ≤ m := Nat.le_of_ble_eq_true h
theorem eqSS {s : Str} (k : N true) : opCmp .Eq (.str s) (.str s) σ N := by rw [oc_eqS, beq_self_eq_true]; exact k
theorem eqNN (k : N true) : opCmp .Eq .none .none σ N := ⟨_, _, .none, .none, .none, .none, k⟩
theorem eqBB {c : Bool} (k : N true) : opCmp .Eq (.bool c) (.bool c) σ N := by rw [oc_eqB, beq_self_eq_true]; exact k
theorem eqT {a b : Int} (h : a = b) (k : N true) : opCmp .Eq (.int a) (.int b) σ N := by subst h; rw [oc_eqI, beq_self_eq_true]; exact k
theorem leT {a b : Int} (h : a ≤ b) (k : N true) : opCmp .LtE (.int a) (.int b) σ N := by rw [oc_leI, decide_eq_true h]; exact k
theorem ltT {a b : Int} (h : a < b) (k : N true) : opCmp .Lt (.int a) (.int b) σ N := by rw [oc_ltI, decide_eq_true h]; exact k
theorem eqF {a b : Int} (h : a ≠ b) (k : N false) : opCmp .Eq (.int a) (.int b) σ N := by rw [oc_eqI, beq_false_of_ne h]; exact k
theorem isSB {s : Str} {c : Bool} (k : N false) : opCmp .Is (.str s) (.bool c) σ N := k
theorem isSN {s : Str} (k : N false) : opCmp .Is (.str s) .none σ N := k
theorem isBB {c c' : Bool} (k : N (c == c')) : opCmp .Is (.bool c) (.bool c') σ N := k
theorem obAdd {a b : Int} (k : Q (.int (a + b)) σ) : opBin .Add (.int a) (.int b) σ Q := k
theorem obSub {a b : Int} (k : Q (.int (a - b)) σ) : opBin .Sub (.int a) (.int b) σ Q := k
theorem ifT {c A B : Prop} [Decidable c] (h : c) (k : A) : if c then A else B := by rw [if_pos h]; exact k
theorem ifF {c A B : Prop} [Decidable c] (h : ¬c) (k : B) : if c then A else B := by rw [if_neg h]; exact k
theorem tupT {ks : List (NK × Str)} {ds : List D} {N : Lc → St → Prop} (h1 : ds.length ≤ 1000) (h2 : ds.length = ks.length) (k : sSets ks ds ℓ σ N) : ds.length ≤ 1000 ∧ ∃ ds', unp (.tup ds) σ ds' ∧ ds'.length = ks.length ∧ sSets ks ds' ℓ σ N := ⟨h1, ds, rfl, h2, k⟩
theorem swpT {ks : List (NK × Str)} {ds : List D} {N : Lc → St → Prop} (h1 : ds.length ≤ 1000) (h2 : ds.length = ks.length) (k : sSets ks.reverse ds.reverse ℓ σ N) : ds.length ≤ 1000 ∧ ∃ ds', unp (.tup ds) σ ds' ∧ ds'.length = ks.length ∧ sSets ks.reverse ds'.reverse ℓ σ N := ⟨h1, ds, rfl, h2, k⟩
theorem e_ifT {A B : Prop} (k : A) : if true = true then A else B := k
theorem e_ifF {A B : Prop} (k : B) : if false = true then A else B := k
end
noncomputable def plD (x : Int × Int × Int) : D := .tup [.int x.1, .int x.2.1, .int x.2.2]
noncomputable def psD (ps : List (Int × Int × Int)) : D := .tup (ps.map plD)
noncomputable def enD (e : Ent) : D := .tup [psD e.ps, .int e.b, .int e.n]
noncomputable def rowD (x : Ky × Ent) : D := .tup [kyD x.1, psD x.2.ps, .int x.2.b, .int x.2.n]
noncomputable def tabD (T : Tab) : List (Ky × D) := T.map fun x => (x.1, enD x.2)
theorem tabD_lookup {T : Tab} {k : Ky} : (tabD T).lookup k = (T.lookup k).map enD := by
  induction T with
  | nil => rfl
  | cons x T ih =>
    show List.lookup k ((x.1, enD x.2) :: tabD T) = _
    rw [List.lookup_cons, List.lookup_cons]
    cases k == x.1 <;> simp [ih]
theorem tabD_put {T : Tab} {k : Ky} {e : Ent} : dput k (enD e) (tabD T) = tabD (dput k e T) := by
  unfold dput
  rw [tabD_lookup, Option.isSome_map]
  cases (List.lookup k T).isSome with
  | true =>
    simp only [if_true, tabD, List.map_map]
    refine List.map_congr_left fun x hx => ?_
    simp only [Function.comp]
    by_cases q : x.1 = k <;> simp [q]
  | false => simp [tabD]
theorem tabD_del {T : Tab} {k : Ky} : ddel k (tabD T) = tabD (ddel k T) := by
  unfold ddel tabD
  rw [List.filter_map]; rfl
theorem tabD_length {T : Tab} : (tabD T).length = T.length := by simp [tabD]
structure TabS (σ : St) (t td e : Addr) (ch : Bool) (T : Tab) : Prop where
  i : σ t = some (.inst 256 td)
  a : σ td = some (.attrs [("entries", .ref e), ("is_changed", .bool ch)])
  d : σ e = some (.dict (tabD T))
theorem TabS.ext {σ σ' t td e ch T} (x : TabS σ t td e ch T) (h : Ext σ σ') : TabS σ' t td e ch T := ⟨h _ _ x.i, h _ _ x.a, h _ _ x.d⟩
theorem TabS.sub {σ σ' xs t td e ch T} (x : TabS σ t td e ch T) (h : Sub xs σ σ') (h1 : t ∉ xs) (h2 : td ∉ xs) (h3 : e ∉ xs) : TabS σ' t td e ch T := ⟨h _ _ x.i h1, h _ _ x.a h2, h _ _ x.d h3⟩
theorem look_ent {x : D} {b : Bool} : List.lookup (Str.ofString "entries") [(Str.ofString "entries", x), (Str.ofString "is_changed", D.bool b)] = some x := by simp [List.lookup_cons]
theorem look_chg {x : D} {b : Bool} : List.lookup (Str.ofString "is_changed") [(Str.ofString "entries", x), (Str.ofString "is_changed", D.bool b)] = some (D.bool b) := by simp [List.lookup_cons, str_beq]
end Mine
end F_Ct1
local macro_rules
  | `(tactic| simp_wf) => `(tactic| (repeat (first
    | refine Mine.e_loc (by with_reducible first | assumption | exact Mine.loc_same | exact Mine.loc_ne (by decide) (by assumption) | exact Mine.loc_ne (by decide) Mine.loc_same | exact Mine.loc_ne (by decide) (Mine.loc_ne (by decide) (by assumption)) | exact Mine.loc_ne (by decide) (Mine.loc_ne (by decide) Mine.loc_same) | exact Mine.loc_ne (by decide) (Mine.loc_ne (by decide) (Mine.loc_ne (by decide) (by assumption))) | exact Mine.loc_ne (by decide) (Mine.loc_ne (by decide) (Mine.loc_ne (by decide) Mine.loc_same)) | exact Mine.loc_ne (by decide) (Mine.loc_ne (by decide) (Mine.loc_ne (by decide) (Mine.loc_ne (by decide) (by assumption)))) | exact Mine.loc_ne (by decide) (Mine.loc_ne (by decide) (Mine.loc_ne (by decide) (Mine.loc_ne (by decide) Mine.loc_same)))) ?_
    | refine Mine.e_cel (by assumption) (by assumption) ?_
    | refine Mine.e_setC (by assumption) (by assumption) ?_
    | with_reducible apply Mine.e_int
    | with_reducible apply Mine.e_str
    | with_reducible apply Mine.e_none
    | with_reducible apply Mine.e_bool
    | with_reducible apply Mine.neSS
    | with_reducible apply Mine.isSB
    | with_reducible apply Mine.neBS
    | with_reducible apply Mine.eqSS
    | with_reducible apply Mine.isNN
    | with_reducible apply Mine.isSN
    | with_reducible apply Mine.obAdd
    | with_reducible apply Mine.obSub)))

section F_Ct1b
open PySem PySem.W PySem.Spec PySem.Calls PyProof.Rows
namespace Mine
theorem C_196 {k : Ky} {σ : St} {Q : D → St → Prop} {E : Addr → St → Prop} (h : Q (kyD k) σ) : P_196 [.tup (k.sum.map .int), .int k.l, .int k.p, .int k.c] σ Q E := by
  unfold P_196
  refine enter0 rfl rfl fun ℓ hl hc => ?_
  have h1 := hl "sum_now" _ rfl
  have h2 := hl "lsize" _ rfl
  have h3 := hl "psize" _ rfl
  have h4 := hl "packed" _ rfl
  dsimp only [R_196]
  simp_wf
  exact ⟨ble rfl, h⟩
theorem TabS.ent {σ t td e ch T} (S : TabS σ t td e ch T) {N : D → Prop} (h : N (.ref e)) : ∃ td fs d, σ t = some (.inst 256 td) ∧ σ td = some (.attrs fs) ∧ List.lookup (Str.ofString "entries") fs = some d ∧ N d := ⟨td, _, _, S.i, S.a, look_ent, h⟩
theorem TabS.chg {σ t td e ch T} (S : TabS σ t td e ch T) {N : D → Prop} (h : N (.bool ch)) : ∃ td fs d, σ t = some (.inst 256 td) ∧ σ td = some (.attrs fs) ∧ List.lookup (Str.ofString "is_changed") fs = some d ∧ N d := ⟨td, _, _, S.i, S.a, look_chg, h⟩
theorem C_217 {k : Ky} {σ : St} {t td e ch T} {Q : D → St → Prop} {E : Addr → St → Prop} (S : TabS σ t td e ch T) (h : Q (match T.lookup k with | some x => .tup [psD x.ps, .int x.b] | none => .none) σ) : P_217 [.ref t, .tup (k.sum.map .int), .int k.l, .int k.p, .int k.c] σ Q E := by
  unfold P_217
  refine enter0 rfl rfl fun ℓ hl hc => ?_
  have h0 := hl "self" _ rfl
  have h1 := hl "sum_now" _ rfl
  have h2 := hl "lsize" _ rfl
  have h3 := hl "psize" _ rfl
  have h4 := hl "packed" _ rfl
  dsimp only [R_217]
  simp_wf
  refine C_196 ?_
  simp_wf
  refine S.ent ?_
  simp_wf
  refine in_ok S.d ?_
  rw [tabD_lookup]
  cases hk : T.lookup k with
  | none => rw [hk] at h; exact h
  | some x =>
    rw [hk] at h
    simp_wf
    refine S.ent ?_
    simp_wf
    refine key_ok (d := enD x) S.d (by rw [tabD_lookup, hk]; rfl) ?_
    exact ⟨rfl, rfl, h⟩
theorem C_224 {k : Ky} {σ : St} {t td e ch T} {Q : D → St → Prop} {E : Addr → St → Prop} (S : TabS σ t td e ch T) (h : Q (.int (match T.lookup k with | some x => x.n | none => 0)) σ) : P_224 [.ref t, .tup (k.sum.map .int), .int k.l, .int k.p, .int k.c] σ Q E := by
  unfold P_224
  refine enter0 rfl rfl fun ℓ hl hc => ?_
  have h0 := hl "self" _ rfl
  have h1 := hl "sum_now" _ rfl
  have h2 := hl "lsize" _ rfl
  have h3 := hl "psize" _ rfl
  have h4 := hl "packed" _ rfl
  dsimp only [R_224]
  simp_wf
  refine C_196 ?_
  simp_wf
  refine S.ent ?_
  simp_wf
  refine in_ok S.d ?_
  rw [tabD_lookup]
  cases hk : T.lookup k with
  | none => rw [hk] at h; exact h
  | some x =>
    rw [hk] at h
    simp_wf
    refine S.ent ?_
    simp_wf
    refine key_ok (d := enD x) S.d (by rw [tabD_lookup, hk]; rfl) ?_
    exact item_ok (d := .int x.n) 2 rfl (by decide) h
theorem C_243 {σ : St} {t td e ch T} {Q : D → St → Prop} {E : Addr → St → Prop} (S : TabS σ t td e ch T) (hn : T.length ≤ 100000) (h : Q (.int T.length) σ) : P_243 [.ref t] σ Q E := by
  unfold P_243
  refine enter0 rfl rfl fun ℓ hl hc => ?_
  have h0 := hl "self" _ rfl
  dsimp only [R_243]
  simp_wf
  refine S.ent ?_
  refine e_pnil (fl_lenD' S.d ?_)
  rw [tabD_length]
  exact ⟨hn, h⟩
theorem C_210 {σ : St} {t td} {Q : D → St → Prop} {E : Addr → St → Prop} (h1 : σ t = some (.inst 256 td)) (h2 : σ td = some (.attrs []))
    (h : ∀ e σ', σ e = none → (∀ a o, σ a = some o → a ≠ td → σ' a = some o) → TabS σ' t td e false [] → Q .none σ') : P_210 [.ref t] σ Q E := by
  unfold P_210
  refine enter0 rfl rfl fun ℓ hl hc => ?_
  have h0 := hl "self" _ rfl
  dsimp only [R_210]
  simp_wf
  intro e he
  have n1 : t ≠ e := fun q => by rw [q, he] at h1; cases h1
  have n2 : td ≠ e := fun q => by rw [q, he] at h2; cases h2
  have n3 : t ≠ td := fun q => by rw [q, h2] at h1; cases h1
  simp_wf
  refine ⟨td, [], by rw [put_eq, if_neg n1, h1], by rw [put_eq, if_neg n2, h2], by simp, ?_⟩
  simp_wf
  refine ⟨td, [(Str.ofString "entries", .ref e)], by rw [put_eq, if_neg n3, put_eq, if_neg n1, h1], by rw [St.put_same]; rfl, by simp, ?_⟩
  refine h e _ he (fun a o q n => ?_) ⟨?_, ?_, ?_⟩
  · rw [put_eq, if_neg n, put_eq, if_neg n, put_eq, if_neg (fun z => by rw [z, he] at q; cases q), q]
  · rw [put_eq, if_neg n3, put_eq, if_neg n3, put_eq, if_neg n1, h1]
  · rw [St.put_same]; simp [fput, str_eq]
  · rw [put_eq, if_neg n2.symm, put_eq, if_neg n2.symm, St.put_same]; rfl
theorem C_new {σ : St} {Q : D → St → Prop} {E : Addr → St → Prop} (h : ∀ t td e σ', σ t = none → σ td = none → σ e = none → Ext σ σ' → TabS σ' t td e false [] → Q (.ref t) σ') : fNew 256 P_210 [] σ Q E := by
  unfold fNew
  intro t td ht htd hn
  have e1 : ((σ.put td (.attrs [])).put t (.inst 256 td)) t = some (.inst 256 td) := St.put_same
  have e2 : ((σ.put td (.attrs [])).put t (.inst 256 td)) td = some (.attrs []) := by rw [put_eq, if_neg hn, St.put_same]
  refine C_210 e1 e2 fun e σ' he hs S => ⟨rfl, ?_⟩
  have he' : σ e = none := by
    rw [put_eq] at he
    split at he
    · cases he
    · rw [put_eq] at he
      split at he
      · cases he
      · exact he
  refine h t td e σ' ht htd he' (fun a o q => hs a o ?_ fun z => by rw [z, htd] at q; cases q) S
  rw [put_eq, if_neg (fun z => by rw [z, ht] at q; cases q), put_eq, if_neg (fun z => by rw [z, htd] at q; cases q)]; exact q
end Mine
end F_Ct1b
section F_Ct2
open PySem PySem.W PySem.Spec PySem.Calls PyProof.Rows
namespace Mine
theorem compP_ind {t : Tgt} {P' : EvP} {N : List D → St → Prop} {E : Addr → St → Prop} (I : List D → List D → Lc → St → Prop)
    (step : ∀ x xs ys ℓ σ (K : Lc → D → St → Prop), I (x :: xs) ys ℓ σ → (∀ ℓ' y σ', I xs (ys ++ [y]) ℓ' σ' → K ℓ' y σ') → tgtP t x ℓ σ fun ℓ1 σ1 => P' ℓ1 σ1 (fun y σ2 => K ℓ1 y σ2) E)
    (done : ∀ ys ℓ σ, I [] ys ℓ σ → N ys σ) : ∀ xs ys ℓ σ, I xs ys ℓ σ → compP t P' xs ℓ σ ys N E
  | [], ys, ℓ, σ, h => done ys ℓ σ h
  | x :: xs, ys, ℓ, σ, h => step x xs ys ℓ σ (fun ℓ1 y σ2 => compP t P' xs ℓ1 σ2 (ys ++ [y]) N E) h fun ℓ' y σ' h' => compP_ind I step done xs (ys ++ [y]) ℓ' σ' h'
theorem forP_ind {t : Tgt} {B : SP} {N : Lc → St → Prop} {R : D → St → Prop} {E : Addr → St → Prop} (I : List D → Lc → St → Prop)
    (step : ∀ x xs ℓ σ (K : Lc → St → Prop), I (x :: xs) ℓ σ → (∀ ℓ' σ', I xs ℓ' σ' → K ℓ' σ') → tgtP t x ℓ σ fun ℓ1 σ1 => B ℓ1 σ1 K R E)
    (done : ∀ ℓ σ, I [] ℓ σ → N ℓ σ) : ∀ xs ℓ σ, I xs ℓ σ → forP t B xs ℓ σ N R E
  | [], ℓ, σ, h => done ℓ σ h
  | x :: xs, ℓ, σ, h => step x xs ℓ σ _ h fun ℓ' σ' h' => forP_ind I step done xs ℓ' σ' h'
inductive All2 {α : Type} (q : D → α → Prop) : List D → List α → Prop
  | nil : All2 q [] []
  | cons {x y xs ys} : q x y → All2 q xs ys → All2 q (x :: xs) (y :: ys)
inductive All3 (A B C : Prop) : Prop
  | mk : A → B → C → All3 A B C
inductive All4 (A B C D : Prop) : Prop
  | mk : A → B → C → D → All4 A B C D
inductive All6 (A B C D E F : Prop) : Prop
  | mk : A → B → C → D → E → F → All6 A B C D E F
inductive ExA3 {α : Type} (A B C : α → Prop) : Prop
  | mk (x : α) : A x → B x → C x → ExA3 A B C
section
variable {α : Type} {t : Tgt} {P' : EvP} {B : SP} {M : List D → St → Prop} {N : Lc → St → Prop} {R : D → St → Prop} {E : Addr → St → Prop} {ℓ : Lc} {σ : St}
theorem e_tgt {x : Str} {d : D} (k : N (ℓ.set x d) σ) : tgtP (.nm .loc x) d ℓ σ N := k
theorem forP_rel {q : D → α → Prop} {T : List α} {I : List α → Lc → St → Prop}
    (step : ∀ x y T' ℓ σ (K : Lc → St → Prop), q x y → y ∈ T → I (y :: T') ℓ σ → (∀ ℓ' σ', I T' ℓ' σ' → K ℓ' σ') → tgtP t x ℓ σ fun ℓ1 σ1 => B ℓ1 σ1 K R E)
    (done : ∀ ℓ σ, I [] ℓ σ → N ℓ σ) {T' : List α} {xs : List D} (a : All2 q xs T') : ∀ ℓ σ, (∀ y ∈ T', y ∈ T) → I T' ℓ σ → forP t B xs ℓ σ N R E := by
  induction a with
  | nil => exact fun ℓ σ _ h => done ℓ σ h
  | cons h1 _ ih => exact fun ℓ σ hm h => step _ _ _ ℓ σ _ h1 (hm _ (.head _)) h fun ℓ' σ' h' => ih ℓ' σ' (fun z hz => hm z (.tail _ hz)) h'
theorem compP_rel {q : D → α → Prop} {g : α → D} {T : List α} {I : List α → Lc → St → Prop}
    (step : ∀ x y T' ℓ σ (K : Lc → D → St → Prop), q x y → y ∈ T → I (y :: T') ℓ σ → (∀ ℓ' σ', I T' ℓ' σ' → K ℓ' (g y) σ') → tgtP t x ℓ σ fun ℓ1 σ1 => P' ℓ1 σ1 (fun z σ2 => K ℓ1 z σ2) E)
    (done : ∀ ℓ σ, I [] ℓ σ → M (T.map g) σ) {T' : List α} {xs : List D} (a : All2 q xs T') : ∀ ys ℓ σ, (∀ y ∈ T', y ∈ T) → ys ++ T'.map g = T.map g → I T' ℓ σ → compP t P' xs ℓ σ ys M E := by
  induction a with
  | nil =>
    intro ys ℓ σ _ e h
    rw [List.map_nil, List.append_nil] at e
    rw [e]; exact done ℓ σ h
  | cons h1 _ ih => exact fun ys ℓ σ hm e h => step _ _ _ ℓ σ _ h1 (hm _ (.head _)) h fun ℓ' σ' h' => ih _ ℓ' σ' (fun z hz => hm z (.tail _ hz)) (by rw [← e, List.append_assoc]; rfl) h'
theorem all_map (f : α → D) (T : List α) : All2 (fun x y => x = f y) (T.map f) T := by
  induction T with
  | nil => exact .nil
  | cons _ T ih => exact .cons rfl ih
theorem all_len {xs : List D} {T : List α} (h : xs.length = T.length) : All2 (fun _ _ => True) xs T := by
  induction xs generalizing T with
  | nil => cases T with
    | nil => exact .nil
    | cons _ _ => cases h
  | cons x xs ih => cases T with
    | nil => cases h
    | cons _ _ => exact .cons trivial (ih (Nat.succ.inj h))
theorem forP_map (f : α → D) (T : List α) (I : List α → Lc → St → Prop)
    (step : ∀ y T' ℓ σ (K : Lc → St → Prop), y ∈ T → I (y :: T') ℓ σ → (∀ ℓ' σ', I T' ℓ' σ' → K ℓ' σ') → tgtP t (f y) ℓ σ fun ℓ1 σ1 => B ℓ1 σ1 K R E)
    (done : ∀ ℓ σ, I [] ℓ σ → N ℓ σ) (h : I T ℓ σ) : forP t B (T.map f) ℓ σ N R E :=
  forP_rel (fun x y T' ℓ σ K e hy h k => by rw [e]; exact step y T' ℓ σ K hy h k) done (all_map f T) ℓ σ (fun _ h => h) h
theorem forP_len {xs : List D} (T : List α) (I : List α → Lc → St → Prop)
    (step : ∀ x y T' ℓ σ (K : Lc → St → Prop), y ∈ T → I (y :: T') ℓ σ → (∀ ℓ' σ', I T' ℓ' σ' → K ℓ' σ') → tgtP t x ℓ σ fun ℓ1 σ1 => B ℓ1 σ1 K R E)
    (done : ∀ ℓ σ, I [] ℓ σ → N ℓ σ) (hl : xs.length = T.length) (h : I T ℓ σ) : forP t B xs ℓ σ N R E :=
  forP_rel (fun x y T' ℓ σ K _ hy h k => step x y T' ℓ σ K hy h k) done (all_len hl) ℓ σ (fun _ h => h) h
theorem compP_mapI (f g : α → D) (T : List α) (I : List α → Lc → St → Prop)
    (step : ∀ y T' ℓ σ (K : Lc → D → St → Prop), y ∈ T → I (y :: T') ℓ σ → (∀ ℓ' σ', I T' ℓ' σ' → K ℓ' (g y) σ') → tgtP t (f y) ℓ σ fun ℓ1 σ1 => P' ℓ1 σ1 (fun z σ2 => K ℓ1 z σ2) E)
    (done : ∀ ℓ σ, I [] ℓ σ → M (T.map g) σ) (h : I T ℓ σ) : compP t P' (T.map f) ℓ σ [] M E :=
  compP_rel (fun x y T' ℓ σ K e hy h k => by rw [e]; exact step y T' ℓ σ K hy h k) done (all_map f T) [] ℓ σ (fun _ h => h) rfl h
theorem compP_lenI {xs : List D} (g : α → D) (T : List α) (I : List α → Lc → St → Prop)
    (step : ∀ x y T' ℓ σ (K : Lc → D → St → Prop), y ∈ T → I (y :: T') ℓ σ → (∀ ℓ' σ', I T' ℓ' σ' → K ℓ' (g y) σ') → tgtP t x ℓ σ fun ℓ1 σ1 => P' ℓ1 σ1 (fun z σ2 => K ℓ1 z σ2) E)
    (done : ∀ ℓ σ, I [] ℓ σ → M (T.map g) σ) (hl : xs.length = T.length) (h : I T ℓ σ) : compP t P' xs ℓ σ [] M E :=
  compP_rel (fun x y T' ℓ σ K _ hy h k => step x y T' ℓ σ K hy h k) done (all_len hl) [] ℓ σ (fun _ h => h) rfl h
end
theorem compP_map {t : Tgt} {P' : EvP} {N : List D → St → Prop} {E : Addr → St → Prop} {σ : St} (f : D → D) (J : Lc → Prop) (zs : List D)
    (step : ∀ x ∈ zs, ∀ ℓ (K : Lc → D → St → Prop), J ℓ → (∀ ℓ', J ℓ' → K ℓ' (f x) σ) → tgtP t x ℓ σ fun ℓ1 σ1 => P' ℓ1 σ1 (fun y σ2 => K ℓ1 y σ2) E)
    {ℓ : Lc} (hj : J ℓ) (done : N (zs.map f) σ) : compP t P' zs ℓ σ [] N E := by
  refine compP_ind (fun xs ys ℓ' σ' => J ℓ' ∧ σ' = σ ∧ (∀ x ∈ xs, x ∈ zs) ∧ ys ++ xs.map f = zs.map f) ?_ ?_ zs [] ℓ σ ⟨hj, rfl, fun _ h => h, by simp⟩
  · rintro x xs ys ℓ' σ' K ⟨h1, rfl, h3, h4⟩ k
    exact step x (h3 x (.head _)) ℓ' K h1 fun ℓ2 h2 => k ℓ2 _ _ ⟨h2, rfl, fun y hy => h3 y (.tail _ hy), by rw [← h4]; simp⟩
  · rintro ys ℓ' σ' ⟨_, rfl, _, h4⟩
    rw [List.map_nil, List.append_nil] at h4
    rw [h4]; exact done
theorem compP_ext {t : Tgt} {P' : EvP} {N : List D → St → Prop} {E : Addr → St → Prop} {σ : St} (f : D → D) (J : Lc → Prop) (zs : List D)
    (step : ∀ x ∈ zs, ∀ ℓ σ1 (K : Lc → D → St → Prop), J ℓ → Ext σ σ1 → (∀ ℓ' σ2, J ℓ' → Ext σ1 σ2 → K ℓ' (f x) σ2) → tgtP t x ℓ σ1 fun ℓ1 σ1 => P' ℓ1 σ1 (fun y σ2 => K ℓ1 y σ2) E)
    {ℓ : Lc} (hj : J ℓ) (done : ∀ σ', Ext σ σ' → N (zs.map f) σ') : compP t P' zs ℓ σ [] N E := by
  refine compP_ind (fun xs ys ℓ' σ' => J ℓ' ∧ Ext σ σ' ∧ (∀ x ∈ xs, x ∈ zs) ∧ ys ++ xs.map f = zs.map f) ?_ ?_ zs [] ℓ σ ⟨hj, Ext.refl, fun _ h => h, by simp⟩
  · rintro x xs ys ℓ' σ' K ⟨h1, h2, h3, h4⟩ k
    exact step x (h3 x (.head _)) ℓ' σ' K h1 h2 fun ℓ2 σ2 h5 h6 => k ℓ2 _ _ ⟨h5, h2.trans h6, fun y hy => h3 y (.tail _ hy), by rw [← h4]; simp⟩
  · rintro ys ℓ' σ' ⟨_, h2, _, h4⟩
    rw [List.map_nil, List.append_nil] at h4
    rw [h4]; exact done σ' h2
theorem frz_ext {σ σ' : St} {fz : Option Addr} (h : Ext (σ.frz fz) σ') : Ext σ (σ'.thaw σ fz) := fun a o e => by
  cases fz with
  | none => exact h a o e
  | some b =>
    show (if a = b then σ b else σ' a) = some o
    split
    · rename_i q; rw [← q]; exact e
    · rename_i q
      exact h a o (by show (if a = b then none else σ a) = _; rw [if_neg q]; exact e)
theorem ext_frz {σ : St} {fz : Option Addr} {a o} (h : σ a = some o) (hn : fz ≠ some a) : σ.frz fz a = some o := by
  cases fz with
  | none => exact h
  | some b =>
    show (if a = b then none else σ a) = _
    rw [if_neg (fun q => hn (by rw [q])), h]
theorem thaw_id {σ : St} {fz : Option Addr} : (σ.frz fz).thaw σ fz = σ := by
  cases fz with
  | none => rfl
  | some b =>
    funext a
    show (if a = b then σ b else if a = b then none else σ a) = σ a
    split
    · rename_i q; rw [q]
    · rfl
theorem compP_nm {x : Str} {P' : EvP} {σ : St} {xs cl} {N : List D → St → Prop} {E : Addr → St → Prop} (f : D → D)
    (step : ∀ y ∈ xs, ∀ ℓ (K : D → St → Prop), ℓ.loc x = some y → ℓ.cel = cl → K (f y) σ → P' ℓ σ K E)
    (done : N (xs.map f) σ) : compP (.nm .loc x) P' xs ⟨fun _ => none, cl⟩ σ [] N E :=
  compP_map (t := .nm .loc x) (P' := P') (E := E) f (fun ℓ => ℓ.cel = cl) xs (fun y hy ℓ K hj k => step y hy (ℓ.set x y) (fun d σ' => K (ℓ.set x y) d σ') (by simp [loc_set]) hj (k (ℓ.set x y) hj)) rfl done
theorem compP_nmx {x : Str} {P' : EvP} {σ : St} {xs cl} {N : List D → St → Prop} {E : Addr → St → Prop} (f : D → D)
    (step : ∀ y ∈ xs, ∀ ℓ σ1 (K : D → St → Prop), ℓ.loc x = some y → ℓ.cel = cl → Ext σ σ1 → (∀ σ2, Ext σ1 σ2 → K (f y) σ2) → P' ℓ σ1 K E)
    (done : ∀ σ', Ext σ σ' → N (xs.map f) σ') : compP (.nm .loc x) P' xs ⟨fun _ => none, cl⟩ σ [] N E :=
  compP_ext (t := .nm .loc x) (P' := P') (E := E) f (fun ℓ => ℓ.cel = cl) xs (fun y hy ℓ σ1 K hj he k => step y hy (ℓ.set x y) σ1 (fun d σ' => K (ℓ.set x y) d σ') (by simp [loc_set]) hj he fun σ2 h2 => k (ℓ.set x y) σ2 hj h2) rfl done
theorem notItems_list {σ : St} {a xs} (h : σ a = some (.list xs)) : NotItems (.ref a) σ := fun b d' q z => by cases q; rw [h] at z; cases z
theorem notItems_tup {σ : St} {xs} : NotItems (.tup xs) σ := fun b d' q => by cases q
theorem notItems_rng {σ : St} {a n} (h : σ a = some (.range n)) : NotItems (.ref a) σ := fun b d' q z => by cases q; rw [h] at z; cases z
theorem C_28 {C : Addr} {σ : St} {a : Addr} {d : D} {Q : D → St → Prop} {E : Addr → St → Prop} (hx : ∀ w, ExcCls w C) (ha : σ a = some (.exc C true)) (h : Q .none (σ.put a (.exc C false))) : P_28 [.ref a, d] σ Q E := by
  unfold P_28
  refine enter0 rfl rfl fun ℓ hl hc => ?_
  have h0 := hl "self" _ rfl
  have h1 := hl "why" _ rfl
  dsimp only [R_28]
  simp_wf
  refine ⟨a, d, C, true, rfl, ha, fun w => (hx w).c, ?_⟩
  simp_wf
  exact ⟨C, ha, fun w => ⟨(hx w).c, (hx w).s, (hx w).y⟩, h⟩
theorem raise_ok {C : Addr} {ds : List D} {σ : St} {ℓ : Lc} {N : Lc → St → Prop} {R : D → St → Prop} {E : Addr → St → Prop} {Ps : EvsP} {d : D} (hx : ∀ w, ExcCls w C) (hp : ∀ Q : List D → St → Prop, Q [d] σ → Ps ℓ σ Q E) (h : E C σ) : sRaise (pCall (fExc C P_28) Ps) ℓ σ N R E := by
  unfold sRaise pCall fExc
  refine hp _ ⟨by simp, fun a ha => C_28 hx St.put_same ⟨rfl, a, C, false, rfl, ha, St.put_same, fun w => (hx w).c, ?_⟩⟩
  have : ((σ.put a (.exc C true)).put a (.exc C false)).frz (some a) = σ := by
    funext b
    show (if b = a then none else _) = σ b
    split
    · rename_i q; rw [q, ha]
    · rename_i q; rw [put_eq, if_neg q, put_eq, if_neg q]
  rw [this]; exact h
theorem raise_str {C : Addr} {x : Str} {σ : St} {ℓ : Lc} {N : Lc → St → Prop} {R : D → St → Prop} {E : Addr → St → Prop} (hx : ∀ w, ExcCls w C) (h : E C σ) : sRaise (pCall (fExc C P_28) (pCons (pStr x) pNil)) ℓ σ N R E := raise_ok (ds := []) (d := .str x) hx (fun Q q => q) h
end Mine
end F_Ct2
section F_Ct3
open PySem PySem.W PySem.Spec PySem.Calls PyProof.Rows
namespace Mine
inductive PlR (σ : St) : List D → List (Int × Int × Int) → Prop
  | nil : PlR σ [] []
  | cons {l x xs ps} : σ l = some (.list [.int x.1, .int x.2.1, .int x.2.2]) → PlR σ xs ps → PlR σ (.ref l :: xs) (x :: ps)
noncomputable def asTup (σ : St) : D → D
  | .ref l => (match σ l with | some (.list xs) => .tup xs | _ => .none)
  | d => d
theorem PlR.map {σ xs ps} (h : PlR σ xs ps) : xs.map (asTup σ) = ps.map plD := by
  induction h with
  | nil => rfl
  | cons a _ ih => simp only [List.map_cons, ih, asTup, a, plD]
theorem PlR.mem {σ xs ps} (h : PlR σ xs ps) : ∀ d ∈ xs, ∃ l x, d = .ref l ∧ σ l = some (.list [.int x.1, .int x.2.1, .int x.2.2]) ∧ asTup σ d = plD x := by
  induction h with
  | nil => exact fun _ q => nomatch q
  | cons a _ ih =>
    intro d hd
    rcases List.mem_cons.mp hd with rfl | hd
    · exact ⟨_, _, rfl, a, by simp [asTup, a, plD]⟩
    · exact ih d hd
theorem PlR.ext {σ σ' xs ps} (h : PlR σ xs ps) (k : ∀ a o, σ a = some o → ∀ xs, o = .list xs → σ' a = some o) : PlR σ' xs ps := by
  induction h with
  | nil => exact .nil
  | cons a _ ih => exact .cons (k _ _ a _ rfl) ih
theorem PlR.length {σ xs ps} (h : PlR σ xs ps) : xs.length = ps.length := by
  induction h with
  | nil => rfl
  | cons _ _ ih => simp [ih]
theorem psData {σ : St} (ps) : Tl σ (psD ps) (psP ps) := .tup (by
  induction ps with
  | nil => exact .nil
  | cons x ps ih => exact .cons (.tup (.cons (.int _) (.cons (.int _) (.cons (.int _) .nil)))) ih)
theorem ps_lay (ps : List (Int × Int × Int)) (b : Int) : Lay 20 (.tuple [psP ps, .int b]) := .tup (Lay.cons (lay_ps ps) (Lay.cons .int Lay.nil))
theorem ne_ent {σ : St} {ps qs : List (Int × Int × Int)} {b c : Int} {N : Bool → Prop} (h : N (decide (¬ (ps = qs ∧ b = c)))) : opCmp .NotEq (.tup [psD ps, .int b]) (.tup [psD qs, .int c]) σ N := by
  rw [oc_neT]
  refine ⟨.tuple [psP ps, .int b], .tuple [psP qs, .int c], .tup (.cons (psData _) (.cons (.int _) .nil)), .tup (.cons (psData _) (.cons (.int _) .nil)), ps_lay _ _, ps_lay _ _, ?_⟩
  have e : (!PyData.eqv (.tuple [psP ps, .int b]) (.tuple [psP qs, .int c])) = decide (¬ (ps = qs ∧ b = c)) := by
    by_cases q : ps = qs ∧ b = c
    · rw [eqv_of_eq (ps_lay ps b) (by rw [q.1, q.2])]; simp [q]
    · rw [eqv_of_ne (ps_lay ps b) (ps_lay qs c) (fun z => q (by
        simp only [PyData.tuple.injEq, List.cons.injEq, PyData.int.injEq, and_true] at z
        exact ⟨psP_inj z.1, z.2⟩))]; simp [q]
  rw [e]; exact h
theorem TabS.ne {σ t td e ch T} (S : TabS σ t td e ch T) : t ≠ td ∧ t ≠ e ∧ td ≠ e := by
  refine ⟨fun q => ?_, fun q => ?_, fun q => ?_⟩
  · have := S.a; rw [← q, S.i] at this; cases this
  · have := S.d; rw [← q, S.i] at this; cases this
  · have := S.d; rw [← q, S.a] at this; cases this
theorem TabS.turn {σ t td e ch T} (S : TabS σ t td e ch T) (T' : Tab) : TabS ((σ.put e (.dict (tabD T'))).put td (.attrs [("entries", .ref e), ("is_changed", .bool true)])) t td e true T' :=
  ⟨by rw [put_eq, if_neg S.ne.1, put_eq, if_neg S.ne.2.1]; exact S.i, St.put_same, by rw [put_eq, if_neg S.ne.2.2.symm, St.put_same]⟩
theorem fput_chg {e : Addr} {ch : Bool} : fput (Str.ofString "is_changed") (.bool true) [(Str.ofString "entries", .ref e), (Str.ofString "is_changed", .bool ch)] = [(Str.ofString "entries", .ref e), (Str.ofString "is_changed", .bool true)] := by simp [fput, str_eq]
noncomputable def addT (k : Ky) (ps : List (Int × Int × Int)) (b : Int) (T : Tab) : Tab := dput k ⟨ps, b, (match T.lookup k with | some x => x.n | none => 0) + 1⟩ T
theorem TabS.meth {σ t td e ch T} (S : TabS σ t td e ch T) {x : String} (h1 : (x == "entries") = false) (h2 : (x == "is_changed") = false) {N : Prop} (h : N) : ∃ td fs, σ t = some (.inst 256 td) ∧ σ td = some (.attrs fs) ∧ List.lookup (Str.ofString x) fs = none ∧ N := ⟨td, _, S.i, S.a, by simp [List.lookup_cons, str_beq, h1, h2], h⟩
theorem TabS.fin {σ t td e ch T T' es} {N : St → Prop} (S : TabS σ t td e ch T) (he : es = tabD T') (h : ∀ σ', Sub [td, e] σ σ' → TabS σ' t td e true T' → N σ') :
    ∃ td fs, (σ.put e (.dict es)) t = some (.inst 256 td) ∧ (σ.put e (.dict es)) td = some (.attrs fs) ∧ fs.length ≤ 100 ∧ N ((σ.put e (.dict es)).put td (.attrs (fput (Str.ofString "is_changed") (.bool true) fs))) := by
  subst he
  refine ⟨td, _, by rw [put_eq, if_neg S.ne.2.1]; exact S.i, by rw [put_eq, if_neg S.ne.2.2]; exact S.a, by simp, ?_⟩
  rw [fput_chg]
  exact h _ ((Ext.refl.sub.put (.inr (.tail _ (.head _)))).put (.inr (.head _))) (S.turn T')
theorem C_229 {k : Ky} {σ : St} {t td e ch T a xs ps b} {Q : D → St → Prop} {E : Addr → St → Prop} (S : TabS σ t td e ch T) (hn : T.length ≤ 1000) (ha : σ a = some (.list xs)) (hp : PlR σ xs ps) (hx : xs.length ≤ 1000)
    (hE : ∀ x, T.lookup k = some x → ¬ (x.ps = ps ∧ x.b = b) → ∀ σ', Ext σ σ' → E 68 σ')
    (hQ : (∀ x, T.lookup k = some x → x.ps = ps ∧ x.b = b) → ∀ σ', Sub [td, e] σ σ' → TabS σ' t td e true (addT k ps b T) → Q .none σ') :
    P_229 [.ref t, .tup (k.sum.map .int), .int k.l, .int k.p, .int k.c, .ref a, .int b] σ Q E := by
  unfold P_229
  refine enter0 rfl rfl fun ℓ hl hc => ?_
  have h0 := hl "self" _ rfl
  have h1 := hl "sum_now" _ rfl
  have h2 := hl "lsize" _ rfl
  have h3 := hl "psize" _ rfl
  have h4 := hl "packed" _ rfl
  have h5 := hl "dvas" _ rfl
  have h6 := hl "birth" _ rfl
  dsimp only [R_229]
  refine hSeq fun M1 m1 => ?_
  simp_wf
  refine C_196 ?_
  refine ⟨[], rfl, ?_⟩
  simp_wf
  refine ⟨notItems_list ha, xs, some a, .list ha (by omega), compP_nm (asTup σ) (fun y hy ℓ' K hl1 hc1 hk => ?_) ?_⟩
  · obtain ⟨l, x, rfl, e1, e2⟩ := hp.mem y hy
    have hne : a ≠ l := fun q => by
      subst q
      rw [ha] at e1; cases e1; simp at hy
    simp_wf
    exact ⟨_, ext_frz e1 (fun q => hne (Option.some.inj q)), by simp, by rw [e2] at hk; exact hk⟩
  · rw [hp.map]
    simp only [thaw_id]
    intro c hcn
    refine ⟨_, St.put_same, by simp [← hp.length]; omega, swpT (ble rfl) rfl ?_⟩
    have x1 : Ext σ (σ.put c (.list (ps.map plD))) := Ext.refl.put hcn
    generalize σ.put c (.list (ps.map plD)) = σ1 at x1
    have S1 := S.ext x1
    refine m1 _ _ (hSeq fun M2 m2 => ?_)
    have go : (∀ x, T.lookup k = some x → x.ps = ps ∧ x.b = b) → M2 ((ℓ.set (Str.ofString "dvas") (.tup (ps.map plD))).set (Str.ofString "key") (kyD k)) σ1 := fun hok => by
      refine m2 _ _ (hSeq fun M3 m3 => ?_)
      simp_wf
      refine S1.meth rfl rfl ?_
      simp_wf
      refine C_224 S1 ?_
      simp_wf
      refine ⟨ble rfl, ?_⟩
      simp_wf
      refine S1.ent ?_
      simp_wf
      refine oset_key S1.d (by rw [tabD_length]; omega) (m3 _ _ ?_)
      simp_wf
      exact S1.fin (T' := addT k ps b T) (tabD_put (e := ⟨ps, b, _⟩)) fun σ2 x2 S2 => hQ hok σ2 (x1.sub.trans x2) S2
    simp_wf
    refine S1.ent (in_ok S1.d ?_)
    rw [tabD_lookup]
    cases hk : T.lookup k with
    | none => exact go fun x q => by rw [hk] at q; cases q
    | some x =>
      simp_wf
      refine S1.ent ?_
      simp_wf
      refine key_ok (d := enD x) S1.d (by rw [tabD_lookup, hk]; rfl) ⟨rfl, rfl, ?_⟩
      simp_wf
      refine ⟨ble rfl, ne_ent ?_⟩
      by_cases q : x.ps = ps ∧ x.b = b
      · have : decide (¬ (x.ps = ps ∧ x.b = b)) = false := by simp [q]
        rw [this]
        exact go fun y z => by rw [hk] at z; cases z; exact q
      · rw [decide_eq_true q]
        exact e_ifT (e_seq (raise_str xc_68 (hE x hk q σ1 x1)))
noncomputable def dropT (k : Ky) (T : Tab) : Tab := match T.lookup k with
  | some x => if x.n > 1 then dput k ⟨x.ps, x.b, x.n - 1⟩ T else ddel k T
  | none => T
theorem C_236 {k : Ky} {σ : St} {t td e ch T} {Q : D → St → Prop} {E : Addr → St → Prop} (S : TabS σ t td e ch T) (hn : T.length ≤ 1000)
    (hE : T.lookup k = none → E 56 σ)
    (hQ : ∀ x, T.lookup k = some x → ∀ σ', Sub [td, e] σ σ' → TabS σ' t td e true (dropT k T) → Q (.bool (x.n == 1)) σ') :
    P_236 [.ref t, .tup (k.sum.map .int), .int k.l, .int k.p, .int k.c] σ Q E := by
  unfold P_236
  refine enter0 rfl rfl fun ℓ hl hc => ?_
  have h0 := hl "self" _ rfl
  have h1 := hl "sum_now" _ rfl
  have h2 := hl "lsize" _ rfl
  have h3 := hl "psize" _ rfl
  have h4 := hl "packed" _ rfl
  dsimp only [R_236]
  refine hSeq fun M1 m1 => ?_
  simp_wf
  refine C_196 (m1 _ _ (hSeq fun M2 m2 => ?_))
  simp_wf
  refine S.ent (nin_ok S.d ?_)
  rw [tabD_lookup]
  cases hk : T.lookup k with
  | none => exact e_ifT (e_seq (raise_str xc_56 (hE hk)))
  | some x =>
    refine m2 _ _ (hSeq fun M3 m3 => ?_)
    simp_wf
    refine S.ent ?_
    simp_wf
    refine key_ok (d := enD x) S.d (by rw [tabD_lookup, hk]; rfl) ⟨[psD x.ps, .int x.b, .int x.n], rfl, rfl, ?_⟩
    refine m3 _ _ (hSeq fun M4 m4 => ?_)
    simp_wf
    have hq := hQ x hk
    unfold dropT at hq
    rw [hk] at hq
    dsimp only at hq
    by_cases h : 1 < x.n
    · rw [if_pos h] at hq
      refine ifT (decide_eq_true h) ?_
      simp_wf
      refine ⟨ble rfl, ?_⟩
      simp_wf
      refine S.ent ?_
      simp_wf
      refine oset_key S.d (by rw [tabD_length]; omega) (m4 _ _ (hSeq fun M5 m5 => ?_))
      simp_wf
      refine S.fin (tabD_put (e := ⟨x.ps, x.b, x.n - 1⟩)) fun σ' u S' => m5 _ _ ?_
      simp_wf
      exact hq σ' u S'
    · rw [if_neg h] at hq
      refine ifF (by simpa using h) ?_
      simp_wf
      refine S.ent ⟨⟨_, S.d⟩, ?_⟩
      simp_wf
      refine ⟨_, k, enD x, S.d, rfl, by rw [tabD_lookup, hk]; rfl, by rw [tabD_length]; omega, m4 _ _ (hSeq fun M5 m5 => ?_)⟩
      simp_wf
      refine S.fin tabD_del fun σ' u S' => m5 _ _ ?_
      simp_wf
      exact hq σ' u S'
theorem rows_pick {T : Tab} {p : List Nat} (hp : ∀ i ∈ p, i < T.length) : p.map (fun i => (T.map rowD).getD i .none) = (p.filterMap fun i => T[i]?).map rowD := by
  induction p with
  | nil => rfl
  | cons i p ih =>
    have hi := hp i (.head _)
    simp only [List.map_cons, List.filterMap_cons, ih fun j hj => hp j (.tail _ hj), List.getElem?_eq_getElem hi]
    simp [List.getD, hi]
theorem keyRows (T : Tab) : KeyRows (T.map rowD) (T.map (·.1)) := by
  induction T with
  | nil => exact .nil
  | cons x T ih => exact .cons ih
noncomputable def rowF : D → D
  | .tup [k, .tup ys] => .tup ([k] ++ ys)
  | d => d
theorem C_253 {σ : St} {t td e ch T} {Q : D → St → Prop} {E : Addr → St → Prop} (S : TabS σ t td e ch T) (hn : T.length ≤ 6) (hd : (T.map (·.1)).Nodup) (hk : ∀ k ∈ T.map (·.1), k ∈ keysS)
    (hQ : ∀ c σ', Ext σ σ' → σ' c = none → Q (.ref c) (σ'.put c (.list ((sortT T).map rowD)))) : P_253 [.ref t] σ Q E := by
  unfold P_253
  refine enter0 rfl rfl fun ℓ hl hc => ?_
  have h0 := hl "self" _ rfl
  dsimp only [R_253]
  refine ⟨[], rfl, ?_⟩
  simp_wf
  refine S.ent ⟨⟨_, S.d⟩, ⟨_, S.d⟩, fun v hv => ?_⟩
  have x1 : Ext σ (σ.put v (.items e)) := Ext.refl.put hv
  have s1 : σ.put v (.items e) v = some (.items e) := St.put_same
  generalize σ.put v (.items e) = σ1 at x1 s1
  have S1 := S.ext x1
  refine ⟨trivial, _, some e, .items s1 S1.d (by rw [tabD_length]; omega), compP_map rowF (fun _ => True) _ (fun y hy ℓ' K _ hk' => ?_) trivial ?_⟩
  · obtain ⟨z, hz, rfl⟩ := List.mem_map.mp hy
    obtain ⟨w, hw, rfl⟩ := List.mem_map.mp hz
    refine ⟨[kyD w.1, enD w.2], rfl, rfl, ?_⟩
    simp_wf
    refine ⟨ble rfl, ?_⟩
    simp_wf
    exact ⟨ble rfl, hk' _ trivial⟩
  · simp only [thaw_id]
    intro c hcn
    have e1 : ((tabD T).map fun e => D.tup [kyD e.1, e.2]).map rowF = T.map rowD := by
      rw [tabD, List.map_map, List.map_map]; rfl
    rw [e1]
    refine fl_srtL' (E := E) St.put_same ⟨_, keyRows T, hd, hk, by simpa using hn, fun p h1 h2 c' hc' => ?_⟩
    have h3 : ∀ i ∈ p, i < T.length := by simpa using h1
    rw [rows_pick h3, sort_tab hn hd hk h3 h2]
    exact hQ c' _ (x1.trans (Ext.refl.put hcn)) hc'
noncomputable def cnts (ps : List (Int × Int × Int)) : Int := (ps.map fun x => x.2.2).sum
noncomputable def savedT (T : Tab) : Int := (T.map fun x => (x.2.n - 1) * cnts x.2.ps).sum
theorem intsOf_map {α : Type} (f : α → Int) : ∀ l : List α, intsOf (l.map fun x => D.int (f x)) = some (l.map f)
  | [] => rfl
  | x :: l => by simp only [List.map_cons, intsOf, intsOf_map f l, Option.map_some]
noncomputable def cntF : D → D
  | .tup [_, _, c] => c
  | d => d
theorem C_248 {σ : St} {t td e ch T} {Q : D → St → Prop} {E : Addr → St → Prop} (S : TabS σ t td e ch T) (hn : T.length ≤ 1000) (hz : ∀ x ∈ T, 0 ≤ x.2.n ∧ x.2.n < 2 ^ 40 ∧ x.2.ps.length ≤ 1000 ∧ IntMulOk (x.2.n - 1) (cnts x.2.ps))
    (hQ : ∀ σ', Ext σ σ' → Q (.int (savedT T)) σ') : P_248 [.ref t] σ Q E := by
  unfold P_248
  refine enter0 rfl rfl fun ℓ hl hc => ?_
  have h0 := hl "self" _ rfl
  dsimp only [R_248]
  refine hSeq fun M1 m1 => ?_
  refine m1 _ _ (hSeq fun M2 m2 => hFor fun B0 hB => ?_)
  simp_wf
  refine S.ent ⟨⟨_, S.d⟩, ⟨_, S.d⟩, fun v hv => ?_⟩
  have x1 : Ext σ (σ.put v (.vals e)) := Ext.refl.put hv
  have s1 : σ.put v (.vals e) v = some (.vals e) := St.put_same
  generalize σ.put v (.vals e) = σ1 at x1 s1
  have S1 := S.ext x1
  have e0 : (tabD T).map (·.2) = T.map fun x => enD x.2 := by rw [tabD, List.map_map]; rfl
  refine ⟨trivial, T.map fun x => enD x.2, some e, by rw [← e0]; exact .vals s1 S1.d (by rw [tabD_length]; omega), ?_⟩
  refine forP_map (fun x => enD x.2) T (fun T' ℓ' σ' => ExA3 (fun _ => Ext (σ1.frz (some e)) σ') (fun acc => ℓ'.loc "found" = some (.int acc)) (fun acc => acc + savedT T' = savedT T)) ?_ ?_ ⟨0, Ext.refl, loc_same, Int.zero_add _⟩
  · rintro y T' ℓ' σ' K hy ⟨acc, h1, h4, h5⟩ k
    refine ⟨[psD y.2.ps, .int y.2.b, .int y.2.n], rfl, rfl, ?_⟩
    refine hB _ _ _ _ _ (hSeq fun N1 n1 => ?_)
    simp_wf
    refine ⟨[], rfl, ?_⟩
    simp_wf
    refine ⟨notItems_tup, _, none, .tup (by have := (hz y hy).2.2.1; simp; omega), compP_nm cntF (fun z hz ℓ2 K2 q1 q2 q3 => ?_) fun c hcn => ?_⟩
    · obtain ⟨w, hw, rfl⟩ := List.mem_map.mp hz
      simp_wf
      exact item_ok 2 rfl (by decide) q3
    · have e1 : (y.2.ps.map plD).map cntF = y.2.ps.map fun x => D.int x.2.2 := by rw [List.map_map]; rfl
      rw [e1]
      simp only [thaw_id] at hcn ⊢
      refine ⟨_, _, St.put_same, intsOf_map _ _, ?_⟩
      refine ⟨(hz y hy).2.2.2, ?_⟩
      refine n1 _ _ ?_
      refine k _ _ ⟨acc + (y.2.n - 1) * cnts y.2.ps, h1.trans (Ext.refl.put hcn), by simp [loc_set, cnts], ?_⟩
      rw [← h5]
      simp only [savedT, List.map_cons, List.sum_cons]
      lia
  · rintro ℓ' σ' ⟨acc, h1, h4, h5⟩
    refine m2 _ _ ?_
    simp_wf
    have : acc = savedT T := by simpa [savedT] using h5
    rw [this]
    exact hQ _ (x1.trans (frz_ext h1))
end Mine
end F_Ct3
section F_Ct4
open PySem PySem.W PySem.Spec PySem.Calls PyProof.Rows
namespace Mine
noncomputable def leB : Int → Nat → List UInt8
  | _, 0 => []
  | n, s + 1 => (n % 256).toNat.toUInt8 :: leB (n / 256) s
noncomputable def leV : List UInt8 → Int
  | [] => 0
  | c :: r => (c.toNat : Int) + 256 * leV r
theorem leB_length : ∀ (n : Int) (s : Nat), (leB n s).length = s
  | _, 0 => rfl
  | n, s + 1 => by simp [leB, leB_length]
theorem leV_leB : ∀ (s : Nat) (n : Int), 0 ≤ n → n < 256 ^ s → leV (leB n s) = n
  | 0, n, h0, h1 => by simp only [Int.pow_zero] at h1; show (0 : Int) = n; lia
  | s + 1, n, h0, h1 => by
    have ih := leV_leB s (n / 256) (Int.ediv_nonneg h0 (by decide)) (Int.ediv_lt_of_lt_mul (by decide) (by rw [Int.pow_succ] at h1; exact h1))
    show (((n % 256).toNat.toUInt8.toNat : Nat) : Int) + 256 * leV (leB (n / 256) s) = n
    rw [ih]
    have e : (n % 256).toNat.toUInt8.toNat = (n % 256).toNat := by
      rw [Nat.toUInt8, UInt8.toNat_ofNat']
      exact Nat.mod_eq_of_lt (by omega)
    rw [e]; lia
theorem leB_range (n : Int) : ∀ (s : Nat) (f : Nat → Int), (∀ i, f i = n / 256 ^ i % 256) → ((List.range s).map f).map (fun n => n.toNat.toUInt8) = leB n s
  | 0, f, _ => rfl
  | s + 1, f, h => by
    rw [List.range_succ_eq_map, List.map_cons, List.map_cons, List.map_map]
    show _ :: _ = _ :: _
    congr 1
    · rw [h 0]; simp
    · have := leB_range (n / 256) s (fun i => f (i + 1)) fun i => by rw [h, Int.pow_succ', Int.ediv_ediv_of_nonneg (by decide)]
      simpa [List.map_map, Function.comp_def] using this
theorem byteArr_range (n : Int) (s : Nat) {f : Nat → Int} (h : ∀ i, f i = n / 256 ^ i % 256) : byteArr ((List.range s).map f) = (leB n s).toArray := by
  unfold byteArr
  rw [leB_range n s f h]
theorem enterC {names : List (Str × NameKind)} {xs : List Str} {P : SP} {ds : List D} {σ : St} {Q : D → St → Prop} {E : Addr → St → Prop} (hl : ds.length = xs.length)
    (h : ∀ (ℓ : Lc) σ1, (∀ x d, bindLD (fun x => names.lookup x) (xs.zip ds) (fun _ => none) x = some d → ℓ.loc x = some d) → Ext σ σ1 → ℓ.cel.map (·.1) = cellNames names → (ℓ.cel.map (·.2)).Nodup →
      (∀ p ∈ ℓ.cel, σ p.2 = none ∧ σ1 p.2 = some (.cell (bindCD (fun x => names.lookup x) (xs.zip ds) (fun _ => none) p.1))) → P ℓ σ1 (fun _ σ' => Q .none σ') Q E) : pDef names (bsPlain xs) P ds σ Q E := by
  unfold pDef bsPlain
  rw [if_pos hl]
  intro cl h1 h2 h3
  generalize hcm : bindCD (fun x => names.lookup x) (xs.zip ds) (fun _ => none) = cm at h
  have key : ∀ (cl : List (Str × Addr)), (cl.map (·.2)).Nodup → (∀ p ∈ cl, σ p.2 = none) → Ext σ (putCells cl cm σ) ∧ ∀ p ∈ cl, putCells cl cm σ p.2 = some (.cell (cm p.1)) := by
    intro cl
    induction cl with
    | nil => exact fun _ _ => ⟨Ext.refl, fun _ q => nomatch q⟩
    | cons x cl ih =>
      intro n f
      rw [List.map_cons, List.nodup_cons] at n
      obtain ⟨i1, i2⟩ := ih n.2 fun p hp => f p (.tail _ hp)
      refine ⟨i1.put (f x (.head _)), fun p hp => ?_⟩
      show ((putCells cl cm σ).put x.2 _) p.2 = _
      rcases List.mem_cons.mp hp with rfl | hp
      · exact St.put_same
      · rw [put_eq, if_neg fun (q : p.2 = x.2) => n.1 (by rw [← q]; exact List.mem_map.mpr ⟨p, hp, rfl⟩)]
        exact i2 p hp
  obtain ⟨k1, k2⟩ := key cl h2 h3
  exact h _ _ (fun _ _ e => e) k1 h1 h2 fun p hp => ⟨h3 p hp, k2 p hp⟩
theorem cel_cons {cl : List (Str × Addr)} {x : Str} {xs} (h : cl.map (·.1) = x :: xs) : ∃ c cl', cl = (x, c) :: cl' ∧ cl'.map (·.1) = xs := by
  cases cl with
  | nil => cases h
  | cons p cl => exact ⟨p.2, cl, by rw [← (List.cons.inj h).1], (List.cons.inj h).2⟩
theorem cel1 {cl : List (Str × Addr)} {x : Str} (h : cl.map (·.1) = [x]) : ∃ c, cl = [(x, c)] := by
  obtain ⟨c, cl', rfl, h2⟩ := cel_cons h
  have e : cl' = [] := List.map_eq_nil_iff.mp h2
  exact ⟨c, by rw [e]⟩
theorem range_ints (s : Nat) (f : Nat → Int) (g : D → D) (h : ∀ i : Nat, g (.int (i : Int)) = .int (f i)) : ((List.range s).map fun (i : Nat) => D.int (i : Int)).map g = (List.range s).map fun i => D.int (f i) := by
  rw [List.map_map]
  exact List.map_congr_left fun i _ => h i
theorem mul8 {a : Int} : IntMulOk 8 a := IntMulOk.of_left (by decide)
theorem C_291 {n : Int} {s : Nat} {σ : St} {Q : D → St → Prop} {E : Addr → St → Prop} (h0 : 0 ≤ n) (hs : s ≤ 4)
    (hQ : ∀ σ', Ext σ σ' → Q (.bytes (leB n s).toArray) σ') : P_291 [.int n, .int s] σ Q E := by
  unfold P_291
  refine enterC rfl fun ℓ σ1 hl x1 hc1 hc2 hc3 => ?_
  obtain ⟨c, hc⟩ := cel1 (x := "number") hc1
  have hσ : σ1 c = some (.cell (some (.int n))) := (hc3 ("number", c) (by rw [hc]; exact .head _)).2
  have h1 := hl "size" _ rfl
  dsimp only [R_291]
  refine ⟨[("number", c)], by rw [hc]; rfl, ?_⟩
  simp_wf
  refine e_pnil (fl_rngN fun r hr => ?_)
  have x2 : Ext σ1 (σ1.put r (.range s)) := Ext.refl.put hr
  have hσ := x2 _ _ hσ
  have hr' : σ1.put r (.range s) r = some (.range s) := St.put_same
  generalize σ1.put r (.range s) = σ2 at x2 hσ hr'
  refine ⟨notItems_rng hr', _, none, .range hr' (by omega), compP_nm (fun d => match d with | .int i => .int (n / 256 ^ i.toNat % 256) | d => d) (fun y hy ℓ2 K q1 q2 q3 => ?_) ?_⟩
  · obtain ⟨i, hi, rfl⟩ := List.mem_map.mp hy
    have hi := List.mem_range.mp hi
    have hl : List.lookup (Str.ofString "number") ℓ2.cel = some c := by rw [q2]; simp
    have hσ : σ2.frz none c = some (.cell (some (.int n))) := hσ
    simp_wf
    have e1 : ((i : Int)).toNat = i := Int.toNat_natCast i
    have e2 : (256 : Int) ^ i < 1073741824 ∧ 0 < (256 : Int) ^ i := by
      have : i = 0 ∨ i = 1 ∨ i = 2 ∨ i = 3 := by lia
      rcases this with rfl | rfl | rfl | rfl <;> decide
    have e3 : Builtin.Int.intBits 256 = 9 := by decide
    refine ⟨⟨by omega, by rw [e3]; omega⟩, ⟨by rw [e1]; omega, by rw [e1]; omega⟩, by decide, ?_⟩
    rw [Int.fdiv_eq_ediv_of_nonneg _ (by rw [e1]; omega), Int.fmod_eq_emod_of_nonneg _ (by decide)]
    exact q3
  · rw [range_ints s (fun i => n / 256 ^ i % 256) _ fun i => rfl]
    simp only [thaw_id]
    intro a ha
    refine fl_bytL' (E := E) St.put_same ⟨_, _, St.put_same, intsOf_map _ _, by simp; omega, ?_, ?_⟩
    · intro m hm
      obtain ⟨i, _, rfl⟩ := List.mem_map.mp hm
      omega
    · rw [byteArr_range n s fun i => rfl]
      exact hQ _ ((x1.trans x2).trans (Ext.refl.put ha))
theorem C_80 {n : Int} {s : Nat} {σ : St} {Q : D → St → Prop} {E : Addr → St → Prop} (h0 : 0 ≤ n) (hn : n < 256 ^ s) (hs : s ≤ 4)
    (hQ : ∀ σ', Ext σ σ' → Q (.bytes (leB n s).toArray) σ') : P_80 [.int n, .int s] σ Q E := by
  unfold P_80
  refine enterC rfl fun ℓ σ1 hl x1 hc1 hc2 hc3 => ?_
  obtain ⟨c, hc⟩ := cel1 (x := "number") hc1
  have hσ : σ1 c = some (.cell (some (.int n))) := (hc3 ("number", c) (by rw [hc]; exact .head _)).2
  have h1 := hl "size" _ rfl
  have hl : List.lookup (Str.ofString "number") ℓ.cel = some c := by rw [hc]; simp
  have e3 : Builtin.Int.intBits 256 = 9 := by decide
  dsimp only [R_80]
  simp_wf
  refine leT h0 ?_
  simp_wf
  refine ⟨⟨by omega, by rw [e3]; omega⟩, ?_⟩
  refine ltT (by rw [Int.toNat_natCast]; exact hn) ?_
  refine ⟨[("number", c)], by rw [hc]; rfl, ?_⟩
  simp_wf
  refine e_pnil (fl_rngN fun r hr => ?_)
  have x2 : Ext σ1 (σ1.put r (.range s)) := Ext.refl.put hr
  have hσ := x2 _ _ hσ
  have hr' : σ1.put r (.range s) r = some (.range s) := St.put_same
  generalize σ1.put r (.range s) = σ2 at x2 hσ hr'
  refine ⟨notItems_rng hr', _, none, .range hr' (by omega), compP_nm (fun d => match d with | .int i => .int (n / 256 ^ i.toNat % 256) | d => d) (fun y hy ℓ2 K q1 q2 q3 => ?_) ?_⟩
  · obtain ⟨i, hi, rfl⟩ := List.mem_map.mp hy
    have hi := List.mem_range.mp hi
    have hl : List.lookup (Str.ofString "number") ℓ2.cel = some c := by rw [q2]; simp
    have hσ : σ2.frz none c = some (.cell (some (.int n))) := hσ
    simp_wf
    have e1 : ((i : Int)).toNat = i := Int.toNat_natCast i
    have e2 : (2 : Int) ^ (8 * (i : Int)).toNat = 256 ^ i := by
      rw [show (8 * (i : Int)).toNat = 8 * i by lia, Int.pow_mul]; rfl
    refine ⟨mul8, by lia, ?_⟩
    rw [e2, Int.fdiv_eq_ediv_of_nonneg _ (Int.le_of_lt (Int.pow_pos (by decide)))]
    show K _ _
    rw [bitAnd_m8]
    exact q3
  · rw [range_ints s (fun i => n / 256 ^ i % 256) _ fun i => rfl]
    simp only [thaw_id]
    intro a ha
    refine fl_bytL' (E := E) St.put_same ⟨_, _, St.put_same, intsOf_map _ _, by simp; omega, ?_, ?_⟩
    · intro m hm
      obtain ⟨i, _, rfl⟩ := List.mem_map.mp hm
      omega
    · rw [byteArr_range n s fun i => rfl]
      exact hQ _ ((x1.trans x2).trans (Ext.refl.put ha))
theorem leV_sum (l : List UInt8) : ∀ (k : Nat) (f : UInt8 × Nat → Int), (∀ c i, f (c, i) = (c.toNat : Int) * 256 ^ i) → ((l.zipIdx k).map f).sum = 256 ^ k * leV l := by
  induction l with
  | nil => intro k f h; simp [leV]
  | cons c l ih =>
    intro k f h
    rw [List.zipIdx_cons, List.map_cons, List.sum_cons, ih (k + 1) f h, h, leV, Int.pow_succ, Int.mul_add, Int.mul_comm, Int.mul_assoc]
noncomputable def mulD (d : D) : D := match d with | .tup [.int i, .int c] => .int (c * 2 ^ (8 * i).toNat) | d => d
theorem C_75 {b : Array UInt8} {σ : St} {Q : D → St → Prop} {E : Addr → St → Prop} (hb : b.size ≤ 1000)
    (hQ : ∀ σ', Ext σ σ' → Q (.int (leV b.toList)) σ') : P_75 [.bytes b] σ Q E := by
  unfold P_75
  refine enter0 rfl rfl fun ℓ hl hc => ?_
  have h1 := hl "octets" _ rfl
  dsimp only [R_75]
  refine ⟨[], rfl, ?_⟩
  simp_wf
  refine ⟨hb, compP_map mulD (fun _ => True) _ (fun y hy ℓ2 K _ q3 => ?_) trivial ?_⟩
  · obtain ⟨z, hz, rfl⟩ := List.mem_map.mp hy
    refine ⟨_, rfl, rfl, ?_⟩
    simp_wf
    have := (List.mem_zipIdx hz).2.1
    have h3 : z.2 < b.size := by simpa using this
    have h4 := z.1.toNat_lt
    refine ⟨mul8, ⟨by omega, by lia, by omega⟩, q3 _ trivial⟩
  · intro a ha
    have e1 : (enumD b).map mulD = b.toList.zipIdx.map fun x => D.int ((x.1.toNat : Int) * 2 ^ (8 * (x.2 : Int)).toNat) := by
      rw [enumD, List.map_map]; rfl
    rw [e1]
    refine ⟨_, _, St.put_same, intsOf_map _ _, ?_⟩
    rw [leV_sum b.toList 0 _ fun c i => by
      show _ * (2 : Int) ^ (8 * (i : Int)).toNat = _
      rw [show (8 * (i : Int)).toNat = 8 * i by lia, Int.pow_mul]; rfl]
    rw [Int.pow_zero, Int.one_mul]
    exact hQ _ (Ext.refl.put ha)
end Mine
end F_Ct4
section F_Ct5
open PySem PySem.W PySem.Spec PySem.Calls PyProof.Rows
namespace Mine
structure SnkS (σ : St) (s sd c : Addr) (b : Array UInt8) : Prop where
  i : σ s = some (.inst 135 sd)
  a : σ sd = some (.attrs [("octets", .ref c)])
  d : σ c = some (.barr b)
theorem SnkS.ext {σ σ' s sd c b} (x : SnkS σ s sd c b) (h : Ext σ σ') : SnkS σ' s sd c b := ⟨h _ _ x.i, h _ _ x.a, h _ _ x.d⟩
theorem look_oct {x : D} : List.lookup (Str.ofString "octets") [(Str.ofString "octets", x)] = some x := by simp
theorem SnkS.oct {σ s sd c b} (S : SnkS σ s sd c b) {N : D → Prop} (h : N (.ref c)) : ∃ td fs d, σ s = some (.inst 135 td) ∧ σ td = some (.attrs fs) ∧ List.lookup (Str.ofString "octets") fs = some d ∧ N d := ⟨sd, _, _, S.i, S.a, look_oct, h⟩
theorem SnkS.meth {σ s sd c b} (S : SnkS σ s sd c b) {x : String} (h1 : (x == "octets") = false) {N : Prop} (h : N) : ∃ td fs, σ s = some (.inst 135 td) ∧ σ td = some (.attrs fs) ∧ List.lookup (Str.ofString x) fs = none ∧ N := ⟨sd, _, S.i, S.a, by simp [List.lookup_cons, str_beq, h1], h⟩
theorem SnkS.ne {σ s sd c b} (S : SnkS σ s sd c b) : s ≠ sd ∧ s ≠ c ∧ sd ≠ c := by
  refine ⟨fun q => ?_, fun q => ?_, fun q => ?_⟩
  · have := S.a; rw [← q, S.i] at this; cases this
  · have := S.d; rw [← q, S.i] at this; cases this
  · have := S.d; rw [← q, S.a] at this; cases this
theorem put2 {σ : St} {t td : Addr} {o o'} (hn : td ≠ t) : ((σ.put td o).put t o') t = some o' ∧ ((σ.put td o).put t o') td = some o := ⟨St.put_same, by rw [put_eq, if_neg hn, St.put_same]⟩
theorem C_104 {σ : St} {t td} {Q : D → St → Prop} {E : Addr → St → Prop} (h1 : σ t = some (.inst 135 td)) (h2 : σ td = some (.attrs []))
    (h : ∀ c σ', σ c = none → (∀ a o, σ a = some o → a ≠ td → σ' a = some o) → SnkS σ' t td c #[] → Q .none σ') : P_104 [.ref t] σ Q E := by
  unfold P_104
  refine enter0 rfl rfl fun ℓ hl hc => ?_
  have h0 := hl "self" _ rfl
  dsimp only [R_104]
  simp_wf
  intro e he
  have n1 : t ≠ e := fun q => by rw [q, he] at h1; cases h1
  have n2 : td ≠ e := fun q => by rw [q, he] at h2; cases h2
  have n3 : t ≠ td := fun q => by rw [q, h2] at h1; cases h1
  simp_wf
  refine ⟨td, [], by rw [put_eq, if_neg n1, h1], by rw [put_eq, if_neg n2, h2], by simp, h e _ he (fun a o q n => ?_) ⟨?_, ?_, ?_⟩⟩
  · rw [put_eq, if_neg n, put_eq, if_neg (fun z => by rw [z, he] at q; cases q), q]
  · rw [put_eq, if_neg n3, put_eq, if_neg n1, h1]
  · rw [St.put_same]; simp [fput]
  · rw [put_eq, if_neg n2.symm, St.put_same]
theorem C_newS {σ : St} {Q : D → St → Prop} {E : Addr → St → Prop} (h : ∀ t td e σ', σ t = none → σ td = none → σ e = none → Ext σ σ' → SnkS σ' t td e #[] → Q (.ref t) σ') : fNew 135 P_104 [] σ Q E := by
  unfold fNew
  intro t td ht htd hn
  refine C_104 (put2 hn).1 (put2 hn).2 fun e σ' he hs S => ⟨rfl, ?_⟩
  have he' : σ e = none := by
    rw [put_eq] at he
    split at he
    · cases he
    · rw [put_eq] at he
      split at he
      · cases he
      · exact he
  refine h t td e σ' ht htd he' (fun a o q => hs a o ?_ fun z => by rw [z, htd] at q; cases q) S
  rw [put_eq, if_neg (fun z => by rw [z, ht] at q; cases q), put_eq, if_neg (fun z => by rw [z, htd] at q; cases q)]; exact q
theorem C_111 {σ : St} {t td c b} {n : Int} {s : Nat} {Q : D → St → Prop} {E : Addr → St → Prop} (S : SnkS σ t td c b) (h0 : 0 ≤ n) (hn : n < 256 ^ s) (hs : s ≤ 4) (hb : b.size + s ≤ 100000)
    (h : ∀ σ', Sub [c] σ σ' → SnkS σ' t td c (b ++ (leB n s).toArray) → Q .none σ') : P_111 [.ref t, .int n, .int s] σ Q E := by
  unfold P_111
  refine enter0 rfl rfl fun ℓ hl hc => ?_
  have h1 := hl "self" _ rfl
  have h2 := hl "number" _ rfl
  have h3 := hl "size" _ rfl
  dsimp only [R_111]
  simp_wf
  refine S.oct ⟨⟨_, S.d⟩, ?_⟩
  simp_wf
  refine C_80 h0 hn hs fun σ1 x1 => ?_
  have S1 := S.ext x1
  refine ⟨b, S1.d, by simp [leB_length]; omega, ?_⟩
  refine h _ (x1.sub.put (.inr (.head _))) ⟨?_, ?_, St.put_same⟩
  · rw [put_eq, if_neg S.ne.2.1]; exact S1.i
  · rw [put_eq, if_neg S.ne.2.2]; exact S1.a
theorem C_132 {σ : St} {t td c b} {Q : D → St → Prop} {E : Addr → St → Prop} (S : SnkS σ t td c b) (hb : b.size ≤ 100000) (h : Q (.bytes b) σ) : P_132 [.ref t] σ Q E := by
  unfold P_132
  refine enter0 rfl rfl fun ℓ hl hc => ?_
  have h1 := hl "self" _ rfl
  dsimp only [R_132]
  simp_wf
  refine S.oct ?_
  exact fl_bytA' (E := E) S.d ⟨hb, h⟩
structure CurS (σ : St) (c cd : Addr) (b : Array UInt8) (L : List UInt8) : Prop where
  i : σ c = some (.inst 185 cd)
  a : ∃ n : Nat, n ≤ b.size ∧ b.toList.drop n = L ∧ σ cd = some (.attrs [("octets", .bytes b), ("at", .int n)])
theorem CurS.ext {σ σ' c cd b L} (x : CurS σ c cd b L) (h : Ext σ σ') : CurS σ' c cd b L := ⟨h _ _ x.i, let ⟨n, a, l, e⟩ := x.a; ⟨n, a, l, h _ _ e⟩⟩
theorem CurS.sub {σ σ' xs c cd b L} (x : CurS σ c cd b L) (h : Sub xs σ σ') (h1 : c ∉ xs) (h2 : cd ∉ xs) : CurS σ' c cd b L := ⟨h _ _ x.i h1, let ⟨n, a, l, e⟩ := x.a; ⟨n, a, l, h _ _ e h2⟩⟩
theorem CurS.ne {σ c cd b L} (S : CurS σ c cd b L) : c ≠ cd := fun q => by
  obtain ⟨n, _, _, e⟩ := S.a
  rw [← q, S.i] at e; cases e
theorem look_co {x y : D} : List.lookup (Str.ofString "octets") [(Str.ofString "octets", x), (Str.ofString "at", y)] = some x := by simp
theorem look_ca {x y : D} : List.lookup (Str.ofString "at") [(Str.ofString "octets", x), (Str.ofString "at", y)] = some y := by simp [List.lookup_cons, str_beq]
theorem cur_meth {σ : St} {c cd : Addr} {x y : D} (hi : σ c = some (.inst 185 cd)) (ha : σ cd = some (.attrs [("octets", x), ("at", y)])) {z : String} (h1 : (z == "octets") = false) (h2 : (z == "at") = false) {N : Prop} (h : N) : ∃ td fs, σ c = some (.inst 185 td) ∧ σ td = some (.attrs fs) ∧ List.lookup (Str.ofString z) fs = none ∧ N := ⟨cd, _, hi, ha, by simp [List.lookup_cons, str_beq, h1, h2], h⟩
theorem cur_co {σ : St} {c cd : Addr} {x y : D} (hi : σ c = some (.inst 185 cd)) (ha : σ cd = some (.attrs [("octets", x), ("at", y)])) {N : D → Prop} (h : N x) : ∃ td fs d, σ c = some (.inst 185 td) ∧ σ td = some (.attrs fs) ∧ List.lookup (Str.ofString "octets") fs = some d ∧ N d := ⟨cd, _, _, hi, ha, look_co, h⟩
theorem cur_ca {σ : St} {c cd : Addr} {x y : D} (hi : σ c = some (.inst 185 cd)) (ha : σ cd = some (.attrs [("octets", x), ("at", y)])) {N : D → Prop} (h : N y) : ∃ td fs d, σ c = some (.inst 185 td) ∧ σ td = some (.attrs fs) ∧ List.lookup (Str.ofString "at") fs = some d ∧ N d := ⟨cd, _, _, hi, ha, look_ca, h⟩
theorem C_newC {σ : St} {b : Array UInt8} {Q : D → St → Prop} {E : Addr → St → Prop} (h : ∀ c cd σ', σ c = none → σ cd = none → Ext σ σ' → CurS σ' c cd b b.toList → Q (.ref c) σ') : fNew 185 P_154 [.bytes b] σ Q E := by
  unfold fNew
  intro t td ht htd hn
  have e1 := (put2 (σ := σ) (o := .attrs []) (o' := .inst 185 td) hn).1
  have e2 := (put2 (σ := σ) (o := .attrs []) (o' := .inst 185 td) hn).2
  have e3 : Ext σ ((σ.put td (.attrs [])).put t (.inst 185 td)) := (Ext.refl.put htd).put ht
  generalize (σ.put td (.attrs [])).put t (.inst 185 td) = σ1 at e1 e2 e3
  have n3 : t ≠ td := fun q => hn q.symm
  unfold P_154 pDef
  simp only [bsCur]
  intro cl h1 h2 h3
  cases cl with
  | cons _ _ => cases h1
  | nil =>
    generalize hℓ : (Lc.mk _ [] : Lc) = ℓ
    have l1 : ℓ.loc "self" = some (.ref t) := by subst hℓ; rfl
    have l2 : ℓ.loc "octets" = some (.bytes b) := by subst hℓ; rfl
    have l3 : ℓ.loc "at" = some (.int 0) := by subst hℓ; rfl
    dsimp only [R_154]
    simp only [putCells]
    simp_wf
    refine ⟨td, [], e1, e2, by simp, ?_⟩
    simp_wf
    refine ⟨td, [("octets", .bytes b)], by rw [put_eq, if_neg n3, e1], by rw [St.put_same]; rfl, by simp, trivial, ?_⟩
    refine h t td _ ht htd (fun a o q => ?_) ⟨?_, 0, by lia, rfl, ?_⟩
    · rw [put_eq, if_neg (fun z => by rw [z, htd] at q; cases q), put_eq, if_neg (fun z => by rw [z, htd] at q; cases q)]; exact e3 _ _ q
    · rw [put_eq, if_neg n3, put_eq, if_neg n3, e1]
    · rw [St.put_same]; simp [fput, str_eq]
theorem C_161 {σ : St} {c cd b} {n : Nat} {Q : D → St → Prop} {E : Addr → St → Prop} (hi : σ c = some (.inst 185 cd)) (ha : σ cd = some (.attrs [("octets", .bytes b), ("at", .int n)])) (hb : b.size ≤ 100000) (h : Q (.int (b.size - n)) σ) : P_161 [.ref c] σ Q E := by
  unfold P_161
  refine enter0 rfl rfl fun ℓ hl hc => ?_
  have h0 := hl "self" _ rfl
  dsimp only [R_161]
  simp_wf
  refine cur_co hi ha ⟨hb, ?_⟩
  simp_wf
  exact cur_ca hi ha h
theorem clip_in {n i : Nat} (h : i ≤ n) : clipAt n (i : Int) = i := by
  unfold clipAt
  rw [if_neg (by omega)]; omega
theorem C_168 {σ : St} {c cd b L} {s : Nat} {Q : D → St → Prop} {E : Addr → St → Prop} (S : CurS σ c cd b L) (hb : b.size ≤ 100000)
    (hE : L.length < s → E 44 σ) (hQ : s ≤ L.length → ∀ σ', Sub [cd] σ σ' → CurS σ' c cd b (L.drop s) → Q (.bytes (L.take s).toArray) σ') : P_168 [.ref c, .int s] σ Q E := by
  unfold P_168
  refine enter0 rfl rfl fun ℓ hl hc => ?_
  have h0 := hl "self" _ rfl
  have h1 := hl "many" _ rfl
  obtain ⟨n, hn, hL, ha⟩ := S.a
  have hlen : L.length = b.size - n := by rw [← hL]; simp
  dsimp only [R_168]
  simp_wf
  refine cur_meth S.i ha rfl rfl (C_161 S.i ha hb ?_)
  by_cases q : L.length < s
  · exact ifT (decide_eq_true (by omega)) (e_seq (raise_str xc_44 (hE q)))
  · refine ifF (by simp only [decide_eq_true_eq]; omega) ?_
    simp_wf
    refine cur_co S.i ha ?_
    simp_wf
    refine cur_ca S.i ha ?_
    simp_wf
    refine cur_ca S.i ha ?_
    simp_wf
    refine ⟨hb, ?_⟩
    simp_wf
    refine cur_ca S.i ha ?_
    simp_wf
    refine ⟨cd, _, S.i, ha, by simp, ?_⟩
    have e : slc b.toList (some (n : Int)) (some ((n : Int) + s)) = L.take s := by
      unfold slc
      simp only [Option.elim]
      have e1 : ((n : Int) + s) = ((n + s : Nat) : Int) := by omega
      rw [e1, clip_in (i := n) (by simpa using hn), clip_in (i := n + s) (by simp; omega), hL]
      congr 1; omega
    rw [e]
    simp_wf
    refine hQ (by omega) _ (Ext.refl.sub.put (.inr (.head _))) ⟨?_, n + s, by omega, ?_, ?_⟩
    · rw [put_eq, if_neg S.ne]; exact S.i
    · rw [← hL, List.drop_drop]
    · rw [St.put_same]; simp [fput, str_eq]
theorem C_175 {σ : St} {c cd b L} {s : Nat} {Q : D → St → Prop} {E : Addr → St → Prop} (S : CurS σ c cd b L) (hb : b.size ≤ 100000) (hs : s ≤ 1000)
    (hE : L.length < s → E 44 σ) (hQ : s ≤ L.length → ∀ σ', Sub [cd] σ σ' → CurS σ' c cd b (L.drop s) → Q (.int (leV (L.take s))) σ') : P_175 [.ref c, .int s] σ Q E := by
  unfold P_175
  refine enter0 rfl rfl fun ℓ hl hc => ?_
  have h0 := hl "self" _ rfl
  have h1 := hl "size" _ rfl
  dsimp only [R_175]
  simp_wf
  obtain ⟨n, hn, hL, ha⟩ := S.a
  refine cur_meth S.i ha rfl rfl ?_
  simp_wf
  refine C_168 S hb hE fun h σ1 x1 S1 => ?_
  refine C_75 (by simp; lia) fun σ2 x2 => ?_
  exact hQ h σ2 (x1.trans x2.sub) (S1.ext x2)
end Mine
end F_Ct5
section F_Ct6
open PySem PySem.W PySem.Spec PySem.Calls PyProof.Rows
namespace Mine
noncomputable def encPl (x : Int × Int × Int) : List UInt8 := leB x.1 1 ++ (leB x.2.1 4 ++ leB x.2.2 2)
noncomputable def encRow (x : Ky × Ent) : List UInt8 := x.1.sum.flatMap (leB · 4) ++ (leB x.1.l 4 ++ (leB x.1.p 4 ++ (leB x.1.c 1 ++ (leB x.2.b 4 ++ (leB x.2.n 4 ++ (leB x.2.ps.length 1 ++ x.2.ps.flatMap encPl))))))
noncomputable def enc (T : Tab) : List UInt8 := leB T.length 4 ++ T.flatMap encRow
structure WfRow (x : Ky × Ent) : Prop where
  s : x.1.sum.length = 4 ∧ ∀ i ∈ x.1.sum, 0 ≤ i ∧ i < 4294967296
  l : 0 ≤ x.1.l ∧ x.1.l < 4294967296
  p : 0 ≤ x.1.p ∧ x.1.p < 4294967296
  c : 0 ≤ x.1.c ∧ x.1.c < 256
  b : 0 ≤ x.2.b ∧ x.2.b < 4294967296
  n : 1 ≤ x.2.n ∧ x.2.n < 4294967296
  k : 1 ≤ x.2.ps.length ∧ x.2.ps.length ≤ 3
  q : ∀ y ∈ x.2.ps, (0 ≤ y.1 ∧ y.1 < 256) ∧ (0 ≤ y.2.1 ∧ y.2.1 < 4294967296) ∧ (0 ≤ y.2.2 ∧ y.2.2 < 65536)
theorem flat_len {α : Type} (f : α → List UInt8) (m : Nat) : ∀ l : List α, (∀ x ∈ l, (f x).length ≤ m) → (l.flatMap f).length ≤ l.length * m
  | [], _ => by simp
  | x :: l, h => by
    have h1 := h x (.head _)
    have h2 := flat_len f m l fun y hy => h y (.tail _ hy)
    simp only [List.flatMap_cons, List.length_append, List.length_cons, Nat.succ_mul]
    omega
theorem encPl_len (x) : (encPl x).length = 7 := by simp [encPl, leB_length]
theorem encRow_len {x} (w : WfRow x) : (encRow x).length ≤ 100 := by
  have h1 := flat_len (leB · 4) 4 x.1.sum fun y _ => by simp [leB_length]
  have h2 := flat_len encPl 7 x.2.ps fun y _ => by simp [encPl_len]
  have h3 := w.s.1
  have h4 := w.k.2
  rw [h3] at h1
  simp only [encRow, List.length_append, leB_length]
  lia
theorem enc_len {T : Tab} (w : ∀ x ∈ T, WfRow x) (h : T.length ≤ 6) : (enc T).length ≤ 1000 := by
  have := flat_len encRow 100 T fun x hx => encRow_len (w x hx)
  simp only [enc, List.length_append, leB_length]
  omega
noncomputable def Snk (σ : St) (s sd c : Addr) (R Tot : List UInt8) : Prop := ∃ b : Array UInt8, SnkS σ s sd c b ∧ b.toList ++ R = Tot
theorem Snk.ext {σ σ' s sd c R Tot} (x : Snk σ s sd c R Tot) (h : Ext σ σ') : Snk σ' s sd c R Tot := let ⟨b, S, e⟩ := x; ⟨b, S.ext h, e⟩
theorem Snk.meth {σ s sd c R Tot} (S : Snk σ s sd c R Tot) {N : Prop} (h : N) : ∃ td fs, σ s = some (.inst 135 td) ∧ σ td = some (.attrs fs) ∧ List.lookup (Str.ofString "number") fs = none ∧ N := let ⟨_, S, _⟩ := S; S.meth rfl h
theorem num_ok {σ σ0 : St} {t td c : Addr} {n : Int} {s : Nat} {R Tot : List UInt8} {Q : D → St → Prop} {E : Addr → St → Prop} (x0 : Ext σ0 σ) (hc0 : σ0 c = none) (S : Snk σ t td c (leB n s ++ R) Tot) (hT : Tot.length ≤ 1000) (h0 : 0 ≤ n) (hn : n < 256 ^ s) (hs : s ≤ 4)
    (h : ∀ σ', Ext σ0 σ' → Snk σ' t td c R Tot → Q .none σ') :
    P_111 [.ref t, .int n, .int s] σ Q E := by
  obtain ⟨b, S, e⟩ := S
  refine (C_111 S h0 hn hs ?_ fun σ' x' S' => h σ' (fun a o q => x' a o (x0 a o q) ?_) ⟨_, S', ?_⟩)
  · have := congrArg List.length e
    simp only [List.length_append, leB_length, Array.length_toList] at this
    omega
  · intro z
    rw [List.mem_singleton.mp z, hc0] at q; cases q
  · rw [← e]; simp
theorem frz_put {σ : St} {c o} (h : σ c = none) : (σ.put c o).frz (some c) = σ := by
  funext b
  show (if b = c then none else _) = σ b
  split
  · rename_i q; rw [q, h]
  · rename_i q; rw [put_eq, if_neg q]
theorem thaw_put {σ σ' : St} {c o} : σ'.thaw (σ.put c o) (some c) = σ'.put c o := by
  funext b
  show (if b = c then (σ.put c o) c else σ' b) = _
  rw [St.put_same, put_eq]
theorem frz_n {σ : St} : σ.frz none = σ := rfl
theorem thaw_n {σ σ' : St} : σ'.thaw σ none = σ' := rfl
theorem p1 : (256 : Int) ^ 1 = 256 := by decide
theorem p2 : (256 : Int) ^ 2 = 65536 := by decide
theorem p4 : (256 : Int) ^ 4 = 4294967296 := by decide
theorem lt1 {n : Int} (h : n < 256) : n < 256 ^ 1 := by rw [p1]; exact h
theorem lt2 {n : Int} (h : n < 65536) : n < 256 ^ 2 := by rw [p2]; exact h
theorem lt4 {n : Int} (h : n < 4294967296) : n < 256 ^ 4 := by rw [p4]; exact h
structure RowL (ℓ : Lc) (s : Addr) (y : Ky × Ent) : Prop where
  a : ℓ.loc "sink" = some (.ref s)
  b : ℓ.loc "key" = some (kyD y.1)
  c : ℓ.loc "dvas" = some (psD y.2.ps)
  d : ℓ.loc "birth" = some (.int y.2.b)
  e : ℓ.loc "many" = some (.int y.2.n)
theorem psLen {ps : List (Int × Int × Int)} {σ : St} {Q : D → St → Prop} {E : Addr → St → Prop} (k : ps.length ≤ 100000 ∧ Q (.int ps.length) σ) : fLen [psD ps] σ Q E := by unfold psD; rw [fl_lenT, List.length_map]; exact k
section
variable (y : Ky × Ent) (p : Int × Int × Int) (r : List UInt8)
noncomputable def rowR7 : List UInt8 := leB y.2.ps.length 1 ++ (y.2.ps.flatMap encPl ++ r)
noncomputable def rowR6 : List UInt8 := leB y.2.n 4 ++ rowR7 y r
noncomputable def rowR5 : List UInt8 := leB y.2.b 4 ++ rowR6 y r
noncomputable def rowR4 : List UInt8 := leB y.1.c 1 ++ rowR5 y r
noncomputable def rowR3 : List UInt8 := leB y.1.p 4 ++ rowR4 y r
noncomputable def rowR2 : List UInt8 := leB y.1.l 4 ++ rowR3 y r
noncomputable def plR3 : List UInt8 := leB p.2.2 2 ++ r
noncomputable def plR2 : List UInt8 := leB p.2.1 4 ++ plR3 p r
end
theorem encRow_app {y : Ky × Ent} {T : Tab} : (y :: T).flatMap encRow = y.1.sum.flatMap (leB · 4) ++ rowR2 y (T.flatMap encRow) := by
  rw [List.flatMap_cons, encRow]; simp only [List.append_assoc]; rfl
theorem encPl_app {p : Int × Int × Int} {ps} {r : List UInt8} : (p :: ps).flatMap encPl ++ r = leB p.1 1 ++ plR2 p (ps.flatMap encPl ++ r) := by
  rw [List.flatMap_cons, encPl]; simp only [List.append_assoc]; rfl
theorem Snk.cast {σ s sd c R R' Tot} (h : R = R') (S : Snk σ s sd c R Tot) : Snk σ s sd c R' Tot := h ▸ S
theorem numS {P : EvP} {ℓ : Lc} {σ σ0 : St} {t td c : Addr} {n : Int} {s : Nat} {R Tot : List UInt8} {N : Lc → St → Prop} {Q : D → St → Prop} {E : Addr → St → Prop} (js : ℓ.loc (Str.ofString "sink") = some (.ref t)) (x0 : Ext σ0 σ) (hc0 : σ0 c = none) (S : Snk σ t td c (leB n s ++ R) Tot) (hT : Tot.length ≤ 1000) (h0 : 0 ≤ n) (hn : n < 256 ^ s) (hs : s ≤ 4)
    (hP : ∀ Q : D → St → Prop, Q (.int n) σ → P ℓ σ Q E) (h : ∀ σ', Ext σ0 σ' → Snk σ' t td c R Tot → N ℓ σ') :
    sExpr (pMeth 135 (Str.ofString "number") P_111 (pLoc (Str.ofString "sink")) (pCons P (pCons (pInt s) pNil))) ℓ σ N Q E :=
  e_loc js (S.meth (hP _ (num_ok x0 hc0 S hT h0 hn hs h)))
theorem C_267 {σ : St} {t td e ch T} {Q : D → St → Prop} {E : Addr → St → Prop} (S : TabS σ t td e ch T) (hn : T.length ≤ 6) (hd : (T.map (·.1)).Nodup) (hk : ∀ k ∈ T.map (·.1), k ∈ keysS) (hw : ∀ x ∈ sortT T, WfRow x) (hl' : (sortT T).length = T.length)
    (hQ : ∀ σ', Ext σ σ' → Q (.bytes (enc (sortT T)).toArray) σ') : P_267 [.ref t] σ Q E := by
  unfold P_267
  refine enter0 rfl rfl fun ℓ hl hc => ?_
  have h0 := hl "table" _ rfl
  dsimp only [R_267]
  refine hSeq fun M1 m1 => ?_
  simp_wf
  refine C_newS fun s sd c σ1 n1 n2 n3 x1 S1 => ?_
  have T1 := S.ext x1
  refine m1 _ _ (hSeq fun M2 m2 => ?_)
  simp_wf
  refine S1.meth rfl ?_
  simp_wf
  refine T1.meth rfl rfl (C_243 T1 (by omega) ?_)
  have k1 : Snk σ1 s sd c (leB ((sortT T).length : Nat) 4 ++ (sortT T).flatMap encRow) (enc (sortT T)) := ⟨#[], S1, by simp [enc]⟩
  rw [hl'] at k1
  have hL := enc_len hw (by omega)
  refine num_ok x1 n3 k1 hL (by omega) (lt4 (by omega)) (by decide) fun σ2 x2 k2 => ?_
  have T2 := S.ext x2
  refine m2 _ _ (hSeq fun M3 m3 => hFor fun B0 hB0 => ?_)
  simp_wf
  refine T2.meth rfl rfl (C_253 T2 hn hd hk fun r σ3 x3 hr => ?_)
  have k3 := k2.ext x3
  refine ⟨trivial, _, some r, .list St.put_same (by simp; omega), ?_⟩
  simp only [frz_put hr, thaw_put]
  refine forP_map rowD (sortT T) (fun T' ℓ' σ' => All3 (Ext σ σ') (Snk σ' s sd c (T'.flatMap encRow) (enc (sortT T))) (ℓ'.loc "sink" = some (.ref s))) ?_ ?_ ⟨x2.trans x3, k3, loc_same⟩
  · rintro y T' ℓ' σ' K hy ⟨y1, y4, y5⟩ k
    have w := hw y hy
    refine ⟨[kyD y.1, psD y.2.ps, .int y.2.b, .int y.2.n], rfl, rfl, ?_⟩
    refine hB0 _ _ _ _ _ (hSeq fun N1 u1 => hFor fun B1 hB1 => ?_)
    have J : RowL ((((ℓ'.set (Str.ofString "key") (kyD y.1)).set (Str.ofString "dvas") (psD y.2.ps)).set (Str.ofString "birth") (D.int y.2.b)).set (Str.ofString "many") (D.int y.2.n)) s y := ⟨(by with_reducible first | assumption | exact loc_same | exact loc_ne (by decide) (by assumption) | exact loc_ne (by decide) loc_same | exact loc_ne (by decide) (loc_ne (by decide) (by assumption)) | exact loc_ne (by decide) (loc_ne (by decide) loc_same) | exact loc_ne (by decide) (loc_ne (by decide) (loc_ne (by decide) (by assumption))) | exact loc_ne (by decide) (loc_ne (by decide) (loc_ne (by decide) loc_same)) | exact loc_ne (by decide) (loc_ne (by decide) (loc_ne (by decide) (loc_ne (by decide) (by assumption)))) | exact loc_ne (by decide) (loc_ne (by decide) (loc_ne (by decide) (loc_ne (by decide) loc_same)))), (by with_reducible first | assumption | exact loc_same | exact loc_ne (by decide) (by assumption) | exact loc_ne (by decide) loc_same | exact loc_ne (by decide) (loc_ne (by decide) (by assumption)) | exact loc_ne (by decide) (loc_ne (by decide) loc_same) | exact loc_ne (by decide) (loc_ne (by decide) (loc_ne (by decide) (by assumption))) | exact loc_ne (by decide) (loc_ne (by decide) (loc_ne (by decide) loc_same)) | exact loc_ne (by decide) (loc_ne (by decide) (loc_ne (by decide) (loc_ne (by decide) (by assumption)))) | exact loc_ne (by decide) (loc_ne (by decide) (loc_ne (by decide) (loc_ne (by decide) loc_same)))), (by with_reducible first | assumption | exact loc_same | exact loc_ne (by decide) (by assumption) | exact loc_ne (by decide) loc_same | exact loc_ne (by decide) (loc_ne (by decide) (by assumption)) | exact loc_ne (by decide) (loc_ne (by decide) loc_same) | exact loc_ne (by decide) (loc_ne (by decide) (loc_ne (by decide) (by assumption))) | exact loc_ne (by decide) (loc_ne (by decide) (loc_ne (by decide) loc_same)) | exact loc_ne (by decide) (loc_ne (by decide) (loc_ne (by decide) (loc_ne (by decide) (by assumption)))) | exact loc_ne (by decide) (loc_ne (by decide) (loc_ne (by decide) (loc_ne (by decide) loc_same)))), (by with_reducible first | assumption | exact loc_same | exact loc_ne (by decide) (by assumption) | exact loc_ne (by decide) loc_same | exact loc_ne (by decide) (loc_ne (by decide) (by assumption)) | exact loc_ne (by decide) (loc_ne (by decide) loc_same) | exact loc_ne (by decide) (loc_ne (by decide) (loc_ne (by decide) (by assumption))) | exact loc_ne (by decide) (loc_ne (by decide) (loc_ne (by decide) loc_same)) | exact loc_ne (by decide) (loc_ne (by decide) (loc_ne (by decide) (loc_ne (by decide) (by assumption)))) | exact loc_ne (by decide) (loc_ne (by decide) (loc_ne (by decide) (loc_ne (by decide) loc_same)))), (by with_reducible first | assumption | exact loc_same | exact loc_ne (by decide) (by assumption) | exact loc_ne (by decide) loc_same | exact loc_ne (by decide) (loc_ne (by decide) (by assumption)) | exact loc_ne (by decide) (loc_ne (by decide) loc_same) | exact loc_ne (by decide) (loc_ne (by decide) (loc_ne (by decide) (by assumption))) | exact loc_ne (by decide) (loc_ne (by decide) (loc_ne (by decide) loc_same)) | exact loc_ne (by decide) (loc_ne (by decide) (loc_ne (by decide) (loc_ne (by decide) (by assumption)))) | exact loc_ne (by decide) (loc_ne (by decide) (loc_ne (by decide) (loc_ne (by decide) loc_same))))⟩
    generalize (((ℓ'.set (Str.ofString "key") (kyD y.1)).set (Str.ofString "dvas") (psD y.2.ps)).set (Str.ofString "birth") (D.int y.2.b)).set (Str.ofString "many") (D.int y.2.n) = ℓ2 at J
    refine e_loc J.b (e_int (item_ok 0 rfl (by decide) ⟨notItems_tup, _, none, .tup (by simp [w.s.1]), ?_⟩))
    simp only [frz_n, thaw_n]
    refine forP_map D.int y.1.sum (fun ns ℓ' σ' => All3 (RowL ℓ' s y) (Ext σ σ') (Snk σ' s sd c (ns.flatMap (leB · 4) ++ rowR2 y (T'.flatMap encRow)) (enc (sortT T)))) ?_ ?_ ⟨J, y1, y4.cast encRow_app⟩
    · rintro n ns ℓ3 σ4 K2 hm ⟨J, z1, z2⟩ k2
      have hb := w.s.2 n hm
      exact hB1 _ _ _ _ _ (e_seq (numS (loc_ne (by decide) J.a) z1 n3 (z2.cast (by rw [List.flatMap_cons, List.append_assoc])) hL hb.1 (lt4 hb.2) (by decide) (fun Q h => e_loc loc_same h) fun σ5 z3 z4 => k2 _ _ ⟨⟨loc_ne (by decide) J.a, loc_ne (by decide) J.b, loc_ne (by decide) J.c, loc_ne (by decide) J.d, loc_ne (by decide) J.e⟩, z3, z4⟩))
    · rintro ℓ3 σ4 ⟨J, z1, z2⟩
      refine u1 _ _ (e_seq (numS J.a z1 n3 z2 hL w.l.1 (lt4 w.l.2) (by decide) (fun Q h => e_loc J.b (e_int (item_ok 1 rfl (by decide) h))) fun σ4 z1 z2 => ?_))
      refine e_seq (numS J.a z1 n3 z2 hL w.p.1 (lt4 w.p.2) (by decide) (fun Q h => e_loc J.b (e_int (item_ok 2 rfl (by decide) h))) fun σ4 z1 z2 => ?_)
      refine e_seq (numS J.a z1 n3 z2 hL w.c.1 (lt1 w.c.2) (by decide) (fun Q h => e_loc J.b (e_int (item_ok 3 rfl (by decide) h))) fun σ4 z1 z2 => ?_)
      refine e_seq (numS J.a z1 n3 z2 hL w.b.1 (lt4 w.b.2) (by decide) (fun Q h => e_loc J.d h) fun σ4 z1 z2 => ?_)
      refine e_seq (numS J.a z1 n3 z2 hL (by have := w.n.1; lia) (lt4 w.n.2) (by decide) (fun Q h => e_loc J.e h) fun σ4 z1 z2 => ?_)
      refine e_seq (numS J.a z1 n3 z2 hL (by omega) (lt1 (by have := w.k.2; omega)) (by decide) (fun Q h => e_call (e_cons (e_loc J.c (e_pnil (psLen ⟨by have := w.k.2; omega, h⟩))))) fun σ4 z1 z2 => ?_)
      refine hSeq fun N8 u8 => hFor fun B2 hB2 => ?_
      refine e_loc J.c ⟨trivial, _, none, .tup (by have := w.k.2; simp; omega), ?_⟩
      simp only [frz_n, thaw_n]
      refine forP_map plD y.2.ps (fun ps ℓ' σ' => All3 (ℓ'.loc "sink" = some (.ref s)) (Ext σ σ') (Snk σ' s sd c (ps.flatMap encPl ++ T'.flatMap encRow) (enc (sortT T)))) ?_ ?_ ⟨J.a, z1, z2⟩
      · rintro p ps ℓ4 σ5 K2 hm ⟨J1, z1, z2⟩ k2
        have hp := w.q p hm
        refine ⟨_, rfl, rfl, ?_⟩
        have J2 : (((ℓ4.set (Str.ofString "vdev") (D.int p.1)).set (Str.ofString "sector") (D.int p.2.1)).set (Str.ofString "count") (D.int p.2.2)).loc (Str.ofString "sink") = some (.ref s) := (by with_reducible first | assumption | exact loc_same | exact loc_ne (by decide) (by assumption) | exact loc_ne (by decide) loc_same | exact loc_ne (by decide) (loc_ne (by decide) (by assumption)) | exact loc_ne (by decide) (loc_ne (by decide) loc_same) | exact loc_ne (by decide) (loc_ne (by decide) (loc_ne (by decide) (by assumption))) | exact loc_ne (by decide) (loc_ne (by decide) (loc_ne (by decide) loc_same)) | exact loc_ne (by decide) (loc_ne (by decide) (loc_ne (by decide) (loc_ne (by decide) (by assumption)))) | exact loc_ne (by decide) (loc_ne (by decide) (loc_ne (by decide) (loc_ne (by decide) loc_same))))
        refine hB2 _ _ _ _ _ (e_seq (numS J2 z1 n3 (z2.cast encPl_app) hL hp.1.1 (lt1 hp.1.2) (by decide) (fun Q h => e_loc (loc_ne (by decide) (loc_ne (by decide) loc_same)) h) fun σ6 z1 z2 => ?_))
        refine e_seq (numS J2 z1 n3 z2 hL hp.2.1.1 (lt4 hp.2.1.2) (by decide) (fun Q h => e_loc (loc_ne (by decide) loc_same) h) fun σ6 z1 z2 => ?_)
        exact e_seq (numS J2 z1 n3 z2 hL hp.2.2.1 (lt2 hp.2.2.2) (by decide) (fun Q h => e_loc loc_same h) fun σ6 z1 z2 => k2 _ _ ⟨J2, z1, z2⟩)
      · rintro ℓ4 σ5 ⟨J1, z1, z2⟩
        exact u8 _ _ (k _ _ ⟨z1, z2, J1⟩)
  · rintro ℓ' σ' ⟨y1, y4, y5⟩
    refine m3 _ _ (e_loc y5 ?_)
    have hr0 : σ r = none := (x2.trans x3).non hr
    obtain ⟨b3, S3, _⟩ := k3
    obtain ⟨b, S4, e4⟩ := y4
    have e5 : b = (enc (sortT T)).toArray := by rw [← e4]; simp
    have S5 : SnkS (σ'.put r (.list ((sortT T).map rowD))) s sd c b :=
      ⟨by rw [put_eq, if_neg (Ext.ne S3.i hr).symm]; exact S4.i, by rw [put_eq, if_neg (Ext.ne S3.a hr).symm]; exact S4.a, by rw [put_eq, if_neg (Ext.ne S3.d hr).symm]; exact S4.d⟩
    refine S5.meth rfl (C_132 S5 (by rw [e5]; simp; omega) ?_)
    rw [e5]
    exact hQ _ (y1.put hr0)
end Mine
end F_Ct6
section F_Ct7
open PySem PySem.W PySem.Spec PySem.Calls PyProof.Rows
namespace Mine
structure RowO (ℓ : Lc) (y : Ky × Ent) : Prop where
  b : ℓ.loc "key" = some (kyD y.1)
  c : ℓ.loc "places" = some (psD y.2.ps)
  d : ℓ.loc "birth" = some (.int y.2.b)
  e : ℓ.loc "many" = some (.int y.2.n)
noncomputable def numF : D → D
  | .int i => .bytes (leB i 4).toArray
  | d => d
theorem len4 {l : List Int} (h : l.length = 4) : ∃ a b c d, l = [a, b, c, d] := by
  cases l with
  | nil => cases h
  | cons a l => cases l with
    | nil => cases h
    | cons b l => cases l with
      | nil => cases h
      | cons c l => cases l with
        | nil => cases h
        | cons d l => cases l with
          | nil => exact ⟨a, b, c, d, rfl⟩
          | cons _ _ => exact nomatch Nat.succ.inj (Nat.succ.inj (Nat.succ.inj (Nat.succ.inj h)))
noncomputable def Byt (ℓ : Lc) (σ : St) (E : Addr → St → Prop) (X : EvP) (A : List UInt8) (m : Nat) : Prop := A.length ≤ m ∧ ∀ Q : D → St → Prop, (∀ σ1, Ext σ σ1 → Q (.bytes A.toArray) σ1) → X ℓ σ Q E
section
variable {ℓ : Lc} {σ : St} {E : Addr → St → Prop} {X P : EvP} {A B : List UInt8} {m s : Nat} {n : Int}
theorem Byt.go {Q : D → St → Prop} (h : Byt ℓ σ E X A m) (k : ∀ σ1, Ext σ σ1 → Q (.bytes A.toArray) σ1) : X ℓ σ Q E := h.2 Q k
theorem Byt.loc {x : Str} (h : ℓ.loc x = some (.bytes A.toArray)) (hm : A.length ≤ m) : Byt ℓ σ E (pLoc x) A m := ⟨hm, fun _ k => e_loc h (k _ Ext.refl)⟩
theorem Byt.add (hX : Byt ℓ σ E X A m) (hP : ∀ (σ : St) (Q : D → St → Prop), Q (.int n) σ → P ℓ σ Q E) (h0 : 0 ≤ n) (hs : s ≤ 4) (hm : m ≤ 90000) : Byt ℓ σ E (pBin .Add X (pCall P_291 (pCons P (pCons (pInt s) pNil)))) (A ++ leB n s) (m + 4) :=
  ⟨by rw [List.length_append, leB_length]; exact Nat.add_le_add hX.1 hs, fun Q k => hX.2 _ fun σ1 x1 => hP _ _ (C_291 h0 hs fun σ2 x2 => ⟨by
    have := hX.1
    show A.length + (leB n s).length ≤ 100000
    rw [leB_length]; omega, by
    rw [List.append_toArray]; exact k σ2 (x1.trans x2)⟩)⟩
end
theorem C_296 {σ : St} {r : Addr} {T : Tab} {Q : D → St → Prop} {E : Addr → St → Prop} (hr : σ r = some (.list (T.map rowD))) (hn : T.length ≤ 6) (hw : ∀ x ∈ T, WfRow x)
    (hQ : ∀ σ', Ext σ σ' → Q (.bytes (enc T).toArray) σ') : P_296 [.ref r] σ Q E := by
  have hL := enc_len hw hn
  unfold P_296
  refine enter0 rfl rfl fun ℓ hl hc => ?_
  have h0 := hl "rows" _ rfl
  dsimp only [R_296]
  refine hSeq fun M1 m1 => ?_
  simp_wf
  refine e_pnil (fl_lenL' hr ?_)
  rw [List.length_map]
  refine ⟨by omega, C_291 (by omega) (by decide) fun σ1 x1 => ?_⟩
  refine m1 _ _ (hSeq fun M2 m2 => hFor fun B0 hB0 => ?_)
  simp_wf
  refine ⟨trivial, _, some r, .list (x1 _ _ hr) (by simp; omega), ?_⟩
  refine forP_map rowD T (fun T' ℓ' σ' => ExA3 (fun _ => Ext (σ1.frz (some r)) σ') (fun P => ℓ'.loc "found" = some (.bytes (List.toArray P))) (fun P => P ++ T'.flatMap encRow = enc T)) ?_ ?_ ⟨leB T.length 4, Ext.refl, loc_same, rfl⟩
  · rintro y T' ℓ' σ' K hy ⟨P, y1, y4, y5⟩ k
    have w := hw y hy
    refine ⟨[kyD y.1, psD y.2.ps, .int y.2.b, .int y.2.n], rfl, rfl, ?_⟩
    have hP : P.length ≤ 1000 := by
      have := congrArg List.length y5
      rw [List.length_append] at this
      omega
    have J : RowO ((((ℓ'.set (Str.ofString "key") (kyD y.1)).set (Str.ofString "places") (psD y.2.ps)).set (Str.ofString "birth") (D.int y.2.b)).set (Str.ofString "many") (D.int y.2.n)) y := ⟨(by with_reducible first | assumption | exact loc_same | exact loc_ne (by decide) (by assumption) | exact loc_ne (by decide) loc_same | exact loc_ne (by decide) (loc_ne (by decide) (by assumption)) | exact loc_ne (by decide) (loc_ne (by decide) loc_same) | exact loc_ne (by decide) (loc_ne (by decide) (loc_ne (by decide) (by assumption))) | exact loc_ne (by decide) (loc_ne (by decide) (loc_ne (by decide) loc_same)) | exact loc_ne (by decide) (loc_ne (by decide) (loc_ne (by decide) (loc_ne (by decide) (by assumption)))) | exact loc_ne (by decide) (loc_ne (by decide) (loc_ne (by decide) (loc_ne (by decide) loc_same)))), (by with_reducible first | assumption | exact loc_same | exact loc_ne (by decide) (by assumption) | exact loc_ne (by decide) loc_same | exact loc_ne (by decide) (loc_ne (by decide) (by assumption)) | exact loc_ne (by decide) (loc_ne (by decide) loc_same) | exact loc_ne (by decide) (loc_ne (by decide) (loc_ne (by decide) (by assumption))) | exact loc_ne (by decide) (loc_ne (by decide) (loc_ne (by decide) loc_same)) | exact loc_ne (by decide) (loc_ne (by decide) (loc_ne (by decide) (loc_ne (by decide) (by assumption)))) | exact loc_ne (by decide) (loc_ne (by decide) (loc_ne (by decide) (loc_ne (by decide) loc_same)))), (by with_reducible first | assumption | exact loc_same | exact loc_ne (by decide) (by assumption) | exact loc_ne (by decide) loc_same | exact loc_ne (by decide) (loc_ne (by decide) (by assumption)) | exact loc_ne (by decide) (loc_ne (by decide) loc_same) | exact loc_ne (by decide) (loc_ne (by decide) (loc_ne (by decide) (by assumption))) | exact loc_ne (by decide) (loc_ne (by decide) (loc_ne (by decide) loc_same)) | exact loc_ne (by decide) (loc_ne (by decide) (loc_ne (by decide) (loc_ne (by decide) (by assumption)))) | exact loc_ne (by decide) (loc_ne (by decide) (loc_ne (by decide) (loc_ne (by decide) loc_same)))), (by with_reducible first | assumption | exact loc_same | exact loc_ne (by decide) (by assumption) | exact loc_ne (by decide) loc_same | exact loc_ne (by decide) (loc_ne (by decide) (by assumption)) | exact loc_ne (by decide) (loc_ne (by decide) loc_same) | exact loc_ne (by decide) (loc_ne (by decide) (loc_ne (by decide) (by assumption))) | exact loc_ne (by decide) (loc_ne (by decide) (loc_ne (by decide) loc_same)) | exact loc_ne (by decide) (loc_ne (by decide) (loc_ne (by decide) (loc_ne (by decide) (by assumption)))) | exact loc_ne (by decide) (loc_ne (by decide) (loc_ne (by decide) (loc_ne (by decide) loc_same))))⟩
    have hf : ((((ℓ'.set (Str.ofString "key") (kyD y.1)).set (Str.ofString "places") (psD y.2.ps)).set (Str.ofString "birth") (D.int y.2.b)).set (Str.ofString "many") (D.int y.2.n)).loc "found" = some (.bytes (List.toArray P)) := (by with_reducible first | assumption | exact loc_same | exact loc_ne (by decide) (by assumption) | exact loc_ne (by decide) loc_same | exact loc_ne (by decide) (loc_ne (by decide) (by assumption)) | exact loc_ne (by decide) (loc_ne (by decide) loc_same) | exact loc_ne (by decide) (loc_ne (by decide) (loc_ne (by decide) (by assumption))) | exact loc_ne (by decide) (loc_ne (by decide) (loc_ne (by decide) loc_same)) | exact loc_ne (by decide) (loc_ne (by decide) (loc_ne (by decide) (loc_ne (by decide) (by assumption)))) | exact loc_ne (by decide) (loc_ne (by decide) (loc_ne (by decide) (loc_ne (by decide) loc_same))))
    refine hB0 _ _ _ _ _ (hSeq fun N1 n1 => ?_)
    generalize (((ℓ'.set (Str.ofString "key") (kyD y.1)).set (Str.ofString "places") (psD y.2.ps)).set (Str.ofString "birth") (D.int y.2.b)).set (Str.ofString "many") (D.int y.2.n) = ℓ2 at J hf
    have hlen : (P ++ y.1.sum.flatMap (leB · 4)).length ≤ 1016 := by
      have := flat_len (leB · 4) 4 y.1.sum fun y _ => by simp [leB_length]
      rw [w.s.1] at this
      rw [List.length_append]; omega
    refine e_asg (Byt.go (Byt.add (Byt.add (A := P ++ y.1.sum.flatMap (leB · 4)) (m := 1016) ⟨hlen, fun Q h => ?_⟩ (fun σ Q h => e_loc J.b (e_int (item_ok 1 rfl (by decide) h))) w.l.1 (by decide) (by decide)) (fun σ Q h => e_loc J.b (e_int (item_ok 2 rfl (by decide) h))) w.p.1 (by decide) (by decide)) fun σ2 x2 => ?_)
    · refine e_loc hf ⟨trivial, [], rfl, ?_⟩
      refine e_loc J.b (e_int (item_ok 0 rfl (by decide) ⟨notItems_tup, _, none, .tup (by simp [w.s.1]), ?_⟩))
      simp only [frz_n, thaw_n]
      refine compP_nmx numF (fun z hz ℓ2 σ2 K2 q1 q2 q3 q4 => ?_) fun σ2 y1' c hc => ?_
      · obtain ⟨i, hi, rfl⟩ := List.mem_map.mp hz
        exact e_loc q1 (C_291 (w.s.2 i hi).1 (by decide) fun σ3 q5 => q4 σ3 q5)
      obtain ⟨sa, sb, sc, sd, hs⟩ := len4 w.s.1
      refine ⟨(leB sa 4).toArray, (leB sb 4).toArray, (leB sc 4).toArray, (leB sd 4).toArray, rfl, by rw [St.put_same, hs]; rfl, by simp [leB_length], by simp [leB_length]; omega, ?_⟩
      have he : P.toArray ++ ((leB sa 4).toArray ++ (leB sb 4).toArray ++ (leB sc 4).toArray ++ (leB sd 4).toArray) = (P ++ y.1.sum.flatMap (leB · 4)).toArray := by rw [hs]; simp
      have := h _ (y1'.trans (Ext.refl.put (o := .list ((y.1.sum.map .int).map numF)) hc))
      rw [← he] at this
      exact this
    refine n1 _ _ (e_seq (e_asg (Byt.go (Byt.add (Byt.add (Byt.add (Byt.add (Byt.loc (m := 1024) loc_same (by show ((P ++ y.1.sum.flatMap (leB · 4)) ++ leB y.1.l 4 ++ leB y.1.p 4).length ≤ 1024; rw [List.length_append, List.length_append, leB_length, leB_length]; omega)) (fun σ Q h => e_loc (loc_ne (by decide) J.b) (e_int (item_ok 3 rfl (by decide) h))) w.c.1 (by decide) (by decide)) (fun σ Q h => e_loc (loc_ne (by decide) J.d) h) w.b.1 (by decide) (by decide)) (fun σ Q h => e_loc (loc_ne (by decide) J.e) h) (by have := w.n.1; omega) (by decide) (by decide)) (fun σ Q h => e_call (e_cons (e_loc (loc_ne (by decide) J.c) (e_pnil (psLen ⟨by have := w.k.2; omega, h⟩))))) (by omega) (by decide) (by decide)) fun σ3 x3 => ?_)))
    refine hSeq fun N3 n3 => hFor fun B1 hB1 => ?_
    refine e_loc (loc_ne (by decide) (loc_ne (by decide) J.c)) ⟨trivial, _, none, .tup (by have := w.k.2; simp; omega), ?_⟩
    simp only [frz_n, thaw_n]
    refine forP_map plD y.2.ps (fun ps ℓ' σ' => ExA3 (fun _ => Ext (σ1.frz (some r)) σ') (fun P => ℓ'.loc "found" = some (.bytes (List.toArray P))) (fun P => P ++ (ps.flatMap encPl ++ T'.flatMap encRow) = enc T)) ?_ ?_ ⟨_, (y1.trans x2).trans x3, loc_same, ?_⟩
    · rintro p ps ℓ4 σ5 K2 hm ⟨P, z1, h3, h4⟩ k2
      have hP : P.length ≤ 1000 := by
        have := congrArg List.length h4
        rw [List.length_append] at this
        omega
      have hp := w.q p hm
      refine ⟨_, rfl, rfl, ?_⟩
      refine hB1 _ _ _ _ _ (e_seq (e_asg (Byt.go (Byt.add (Byt.add (Byt.add (Byt.loc (A := P) (by with_reducible first | assumption | exact loc_same | exact loc_ne (by decide) (by assumption) | exact loc_ne (by decide) loc_same | exact loc_ne (by decide) (loc_ne (by decide) (by assumption)) | exact loc_ne (by decide) (loc_ne (by decide) loc_same) | exact loc_ne (by decide) (loc_ne (by decide) (loc_ne (by decide) (by assumption))) | exact loc_ne (by decide) (loc_ne (by decide) (loc_ne (by decide) loc_same)) | exact loc_ne (by decide) (loc_ne (by decide) (loc_ne (by decide) (loc_ne (by decide) (by assumption)))) | exact loc_ne (by decide) (loc_ne (by decide) (loc_ne (by decide) (loc_ne (by decide) loc_same)))) hP) (fun σ Q h => e_loc (loc_ne (by decide) (loc_ne (by decide) loc_same)) h) hp.1.1 (by decide) (by decide)) (fun σ Q h => e_loc (loc_ne (by decide) loc_same) h) hp.2.1.1 (by decide) (by decide)) (fun σ Q h => e_loc loc_same h) hp.2.2.1 (by decide) (by decide)) fun σ6 x6 => ?_)))
      refine k2 _ _ ⟨_, z1.trans x6, loc_same, ?_⟩
      rw [← h4, encPl_app]
      simp only [plR2, plR3, List.append_assoc]
    · rintro ℓ4 σ5 ⟨P, z1, h3, h4⟩
      exact n3 _ _ (k _ _ ⟨P, z1, h3, h4⟩)
    · rw [← y5, encRow_app]
      simp only [rowR2, rowR3, rowR4, rowR5, rowR6, rowR7, List.append_assoc]
  · rintro ℓ' σ' ⟨P, y1, y4, y5⟩
    refine m2 _ _ (e_loc y4 ?_)
    rw [List.flatMap_nil, List.append_nil] at y5
    rw [y5]
    exact hQ _ (x1.trans (frz_ext y1))
end Mine
end F_Ct7
section F_Ct8
open PySem PySem.W PySem.Spec PySem.Calls PyProof.Rows
namespace Mine
noncomputable def Rel : Bool → List UInt8 → List UInt8 → Prop
  | true, R, L => ∃ pad, L = R ++ pad
  | false, R, L => ∃ m, m < R.length ∧ L = R.take m
theorem read_ok {σ : St} {c cd : Addr} {b : Array UInt8} {L R : List UInt8} {f : Bool} {n : Int} {s : Nat} {Q : D → St → Prop} {E : Addr → St → Prop} (S : CurS σ c cd b L) (hr : Rel f (leB n s ++ R) L) (hb : b.size ≤ 100000) (h0 : 0 ≤ n) (hn : n < 256 ^ s) (hs : s ≤ 4)
    (hE : f = false → E 44 σ) (hQ : ∀ σ' L', Sub [cd] σ σ' → CurS σ' c cd b L' → Rel f R L' → Q (.int n) σ') : P_175 [.ref c, .int s] σ Q E := by
  cases f with
  | true =>
    obtain ⟨pad, rfl⟩ := hr
    refine C_175 S hb (by omega) (fun h => ?_) fun _ σ' x' S' => ?_
    · simp only [List.length_append, leB_length] at h; lia
    · have e : (leB n s ++ R ++ pad).take s = leB n s := by
        rw [List.append_assoc]; exact List.take_left' (leB_length n s)
      have e' : (leB n s ++ R ++ pad).drop s = R ++ pad := by
        rw [List.append_assoc]; exact List.drop_left' (leB_length n s)
      rw [e, leV_leB s n h0 hn]
      rw [e'] at S'
      exact hQ σ' _ x' S' ⟨pad, rfl⟩
  | false =>
    obtain ⟨m, hm, rfl⟩ := hr
    refine C_175 S hb (by omega) (fun h => hE rfl) fun h σ' x' S' => ?_
    have hm' : s ≤ m := by
      rw [List.length_take] at h; omega
    have e : ((leB n s ++ R).take m).take s = leB n s := by
      rw [List.take_take, Nat.min_eq_left hm']; exact List.take_left' (leB_length n s)
    have e' : ((leB n s ++ R).take m).drop s = R.take (m - s) := by
      rw [List.drop_take]; rw [List.drop_left' (leB_length n s)]
    rw [e, leV_leB s n h0 hn]
    rw [e'] at S'
    exact hQ σ' _ x' S' ⟨m - s, by rw [List.length_append, leB_length] at hm; omega, rfl⟩
theorem CurS.meth {σ c cd b L} (S : CurS σ c cd b L) {N : Prop} (h : N) : ∃ td fs, σ c = some (.inst 185 td) ∧ σ td = some (.attrs fs) ∧ List.lookup (Str.ofString "number") fs = none ∧ N := by
  obtain ⟨n, _, _, ha⟩ := S.a
  exact cur_meth S.i ha rfl rfl h
structure Dec (σ0 : St) (cc c cd t td e : Addr) (b : Array UInt8) (Tp : Tab) (L : List UInt8) (σ : St) : Prop where
  x : Ext σ0 σ
  k : σ cc = some (.cell (some (.ref c)))
  cu : CurS σ c cd b L
  ta : TabS σ t td e false Tp
  n1 : σ0 cd = none
  n2 : σ0 e = none
theorem Dec.ext {σ0 cc c cd t td e b Tp L σ σ'} (S : Dec σ0 cc c cd t td e b Tp L σ) (h : Ext σ σ') : Dec σ0 cc c cd t td e b Tp L σ' := ⟨S.x.trans h, h _ _ S.k, S.cu.ext h, S.ta.ext h, S.n1, S.n2⟩
theorem Dec.read {σ0 cc c cd t td e b Tp L σ σ' L'} (S : Dec σ0 cc c cd t td e b Tp L σ) (h : Sub [cd] σ σ') (hc : CurS σ' c cd b L') : Dec σ0 cc c cd t td e b Tp L' σ' := by
  obtain ⟨n, _, _, ha⟩ := S.cu.a
  refine ⟨fun a o q => h a o (S.x a o q) fun z => ?_, h _ _ S.k fun z => ?_, hc, S.ta.sub h (fun z => ?_) (fun z => ?_) (fun z => ?_), S.n1, S.n2⟩
  · rw [List.mem_singleton.mp z, S.n1] at q; cases q
  · have := S.k; rw [List.mem_singleton.mp z, ha] at this; cases this
  · have := S.ta.i; rw [List.mem_singleton.mp z, ha] at this; cases this
  · have := S.ta.a; rw [List.mem_singleton.mp z, ha] at this; simp [str_eq] at this
  · have := S.ta.d; rw [List.mem_singleton.mp z, ha] at this; cases this
theorem Dec.num {σ0 cc c cd t td e b Tp L σ} {R : List UInt8} {f : Bool} {n : Int} {s : Nat} {Q : D → St → Prop} {E : Addr → St → Prop} (S : Dec σ0 cc c cd t td e b Tp L σ) (hr : Rel f (leB n s ++ R) L) (hb : b.size ≤ 100000) (h0 : 0 ≤ n) (hn : n < 256 ^ s) (hs : s ≤ 4)
    (hE : f = false → ∀ σ', Ext σ0 σ' → E 44 σ') (hQ : ∀ σ' L', Dec σ0 cc c cd t td e b Tp L' σ' → Rel f R L' → Q (.int n) σ') :
    ∃ td fs, σ c = some (.inst 185 td) ∧ σ td = some (.attrs fs) ∧ List.lookup (Str.ofString "number") fs = none ∧ P_175 [.ref c, .int s] σ Q E :=
  S.cu.meth (read_ok S.cu hr hb h0 hn hs (fun q => hE q σ S.x) fun σ' L' x' S' r' => hQ σ' L' (S.read x' S') r')
theorem Rel.cast {f R R' L} (h : R = R') (x : Rel f R L) : Rel f R' L := h ▸ x
theorem cel_look {ℓ : Lc} {x : Str} {c : Addr} (h : ℓ.cel = [(x, c)]) : List.lookup x ℓ.cel = some c := by rw [h]; simp
theorem Dec.rd {σ0 cc c cd t td e b Tp L σ} {ℓ : Lc} {R : List UInt8} {f : Bool} {n : Int} {s : Nat} {Q : D → St → Prop} {E : Addr → St → Prop} (S : Dec σ0 cc c cd t td e b Tp L σ) (hc : ℓ.cel = [((Str.ofString "cursor"), cc)]) (hr : Rel f (leB n s ++ R) L) (hb : b.size ≤ 100000) (h0 : 0 ≤ n) (hn : n < 256 ^ s) (hs : s ≤ 4)
    (hE : f = false → ∀ σ', Ext σ0 σ' → E 44 σ') (hQ : ∀ σ' L', Dec σ0 cc c cd t td e b Tp L' σ' → Rel f R L' → Q (.int n) σ') :
    pMeth 185 (Str.ofString "number") P_175 (pCel (Str.ofString "cursor")) (pCons (pInt s) pNil) ℓ σ Q E :=
  e_cel (cel_look hc) S.k (S.num hr hb h0 hn hs hE hQ)
structure RowI (ℓ : Lc) (cc t : Addr) (l : D) : Prop where
  a : ℓ.cel = [((Str.ofString "cursor"), cc)]
  b : ℓ.loc "found" = some (.ref t)
  c : ℓ.loc "last" = some l
noncomputable def lastD (Tp : Tab) : D := match Tp.getLast? with | some x => kyD x.1 | none => .none
theorem last_ok {σ : St} {Tp : Tab} {k : Ky} {ℓ : Lc} {Qb : Bool → St → Prop} {E : Addr → St → Prop} (jt : ℓ.loc (Str.ofString "last") = some (lastD Tp)) (jk : ℓ.loc (Str.ofString "key") = some (kyD k)) (h : ∀ x ∈ Tp, kyCmp true k x.1 = false) (hy : Qb false σ) :
    bAnd (bCmp .IsNot (pLoc (Str.ofString "last")) pNone) (bCmp .LtE (pLoc (Str.ofString "key")) (pLoc (Str.ofString "last"))) ℓ σ Qb E := by
  refine e_loc jt ?_
  generalize hd : lastD Tp = d at jt
  unfold lastD at hd
  cases hl : Tp.getLast? with
  | none => rw [hl] at hd; subst hd; exact hy
  | some x =>
    rw [hl] at hd; subst hd
    refine e_loc jk (e_loc jt ⟨k, x.1, rfl, rfl, ?_⟩)
    rw [h x (List.mem_of_getLast? hl)]
    exact hy
theorem tabD_snoc {Tp : Tab} {y : Ky × Ent} (h : Tp.lookup y.1 = none) : dput y.1 (enD y.2) (tabD Tp) = tabD (Tp ++ [y]) := by
  rw [tabD_put, dput, h]
  simp
theorem Dec.store {σ0 cc c cd t td e b Tp L σ} (S : Dec σ0 cc c cd t td e b Tp L σ) (T' : Tab) : Dec σ0 cc c cd t td e b T' L (σ.put e (.dict (tabD T'))) := by
  have u1 : Sub [e] σ (σ.put e (.dict (tabD T'))) := Ext.refl.sub.put (.inr (.head _))
  obtain ⟨n, _, _, ha⟩ := S.cu.a
  refine ⟨S.x.put S.n2, u1 _ _ S.k fun z => ?_, S.cu.sub u1 (fun z => ?_) fun z => ?_, ⟨u1 _ _ S.ta.i fun z => S.ta.ne.2.1 (List.mem_singleton.mp z), u1 _ _ S.ta.a fun z => S.ta.ne.2.2 (List.mem_singleton.mp z), St.put_same⟩, S.n1, S.n2⟩
  · have := S.k; rw [List.mem_singleton.mp z, S.ta.d] at this; cases this
  · have := S.cu.i; rw [List.mem_singleton.mp z, S.ta.d] at this; cases this
  · have := ha; rw [List.mem_singleton.mp z, S.ta.d] at this; cases this
theorem lastD_snoc {Tp : Tab} {y : Ky × Ent} : lastD (Tp ++ [y]) = kyD y.1 := by simp [lastD]
inductive DecI (σ0 : St) (cc c cd t td e : Addr) (b : Array UInt8) (f : Bool) (T : Tab) (T' : Tab) (ℓ : Lc) (σ : St) : Prop
  | mk (Tp : Tab) (L : List UInt8) : Tp ++ T' = T → Dec σ0 cc c cd t td e b Tp L σ → Rel f (T'.flatMap encRow) L → RowI ℓ cc t (lastD Tp) → DecI σ0 cc c cd t td e b f T T' ℓ σ
theorem C_272 {σ : St} {b : Array UInt8} {T : Tab} {f : Bool} {Q : D → St → Prop} {E : Addr → St → Prop} (hb : b.size ≤ 100000) (hr : Rel f (enc T) b.toList) (hw : ∀ x ∈ T, WfRow x) (hn : T.length ≤ 6) (hd : (T.map (·.1)).Nodup) (ha : T.Pairwise fun x y => kyCmp true y.1 x.1 = false)
    (hE : f = false → ∀ σ', Ext σ σ' → E 44 σ') (hQ : f = true → ∀ t td e σ', Ext σ σ' → TabS σ' t td e false T → Q (.ref t) σ') : P_272 [.bytes b] σ Q E := by
  unfold P_272
  refine enterC rfl fun ℓ σ1 hl x1 hc1 hc2 hc3 => ?_
  obtain ⟨cc, hc⟩ := cel1 (x := "cursor") hc1
  have hcc0 : σ cc = none := (hc3 ("cursor", cc) (by rw [hc]; exact .head _)).1
  have hcc : σ1 cc = some (.cell none) := (hc3 ("cursor", cc) (by rw [hc]; exact .head _)).2
  have hcl : List.lookup (Str.ofString "cursor") ℓ.cel = some cc := by rw [hc]; simp
  have h1 := hl "octets" _ rfl
  dsimp only [R_272]
  refine hSeq fun M1 m1 => ?_
  simp_wf
  refine C_newC fun c cd σ2 n1 n2 x2 S2 => ?_
  refine C_new fun t td e σ3 n3 n4 n5 x3 T3 => ?_
  have hcc3 : σ3 cc = some (.cell none) := (x2.trans x3) _ _ hcc
  have S3 := S2.ext x3
  refine tupT (ble rfl) rfl ?_
  simp_wf
  have u1 : Sub [cc] σ3 (σ3.put cc (.cell (some (.ref c)))) := Ext.refl.sub.put (.inr (.head _))
  have D0 : Dec σ cc c cd t td e b [] b.toList (σ3.put cc (.cell (some (.ref c)))) := by
    obtain ⟨m, _, _, hca⟩ := S3.a
    refine ⟨((x1.trans x2).trans x3).put hcc0, St.put_same, S3.sub u1 (fun z => ?_) (fun z => ?_), T3.sub u1 (fun z => ?_) (fun z => ?_) (fun z => ?_), x1.non n2, (x1.trans x2).non n5⟩
    · have := S3.i; rw [List.mem_singleton.mp z, hcc3] at this; cases this
    · have := hca; rw [List.mem_singleton.mp z, hcc3] at this; cases this
    · have := T3.i; rw [List.mem_singleton.mp z, hcc3] at this; cases this
    · have := T3.a; rw [List.mem_singleton.mp z, hcc3] at this; cases this
    · have := T3.d; rw [List.mem_singleton.mp z, hcc3] at this; cases this
  generalize σ3.put cc (.cell (some (.ref c))) = σ4 at D0
  clear u1 hcc3 S3 T3 x3 x2 S2
  refine m1 _ _ (hSeq fun M2 m2 => hFor fun B hB => ?_)
  rw [enc] at hr
  refine e_call (e_cons (D0.rd hc hr hb (by omega) (lt4 (by omega)) (by decide) (fun q σ' => hE q σ') fun σ5 L D1 hr => ?_))
  refine e_pnil (fl_rngN fun r hrr => ?_)
  have D2 := D1.ext (Ext.refl.put (o := .range T.length) hrr)
  have hrg : (σ5.put r (.range T.length)) r = some (.range T.length) := St.put_same
  generalize σ5.put r (.range T.length) = σ6 at D2 hrg
  refine ⟨notItems_rng hrg, _, none, .range hrg (by omega), ?_⟩
  simp only [frz_n, thaw_n]
  refine forP_len T (DecI σ cc c cd t td e b f T) ?_ ?_ (by simp) ⟨[], L, rfl, D2, hr, ⟨hc, loc_ne (by decide) loc_same, loc_same⟩⟩
  · clear hrg D2 hr D1 D0
    rintro x y T' ℓ' σ' K hy ⟨Tp, L, e1, D1, hr, J⟩ k
    have w := hw y hy
    have hJ := J.a
    refine hB _ _ _ _ _ (hSeq fun N1 v1 => ?_)
    refine ⟨[((Str.ofString "cursor"), cc)], by rw [cel_set, hJ]; rfl, ?_⟩
    refine ⟨by decide, fun r hrr => ?_⟩
    have D2 := D1.ext (Ext.refl.put (o := .range 4) hrr)
    have hrg : (σ'.put r (.range 4)) r = some (.range 4) := St.put_same
    have e4 : (4 : Int).toNat = 4 := rfl
    rw [e4]
    generalize σ'.put r (.range 4) = σ7 at D2 hrg
    refine ⟨notItems_rng hrg, _, none, .range hrg (by lia), ?_⟩
    simp only [frz_n, thaw_n]
    refine compP_lenI D.int y.1.sum (fun ns ℓ2 σ2 => ExA3 (fun _ => ℓ2.cel = [((Str.ofString "cursor"), cc)]) (fun L => Dec σ cc c cd t td e b Tp L σ2) (fun L => Rel f (ns.flatMap (leB · 4) ++ rowR2 y (T'.flatMap encRow)) L)) ?_ ?_ (by simp [w.s.1]) ⟨L, rfl, D2, hr.cast encRow_app⟩
    · rintro z n ns ℓ2 σ2 K2 hm ⟨L, q1, D3, hr⟩ k2
      have hn' := w.s.2 n hm
      refine e_tgt ?_
      exact D3.rd q1 (hr.cast (by rw [List.flatMap_cons, List.append_assoc])) hb hn'.1 (lt4 hn'.2) (by decide) hE fun σ3 L3 D4 hr => k2 _ _ ⟨L3, q1, D4, hr⟩
    · rintro ℓ2 σ2 ⟨L, q1, D3, hr⟩ a ha'
      have D4 := D3.ext (Ext.refl.put (o := .list (y.1.sum.map .int)) ha')
      refine ⟨_, St.put_same, by simp [w.s.1], ?_⟩
      generalize σ2.put a (.list (y.1.sum.map .int)) = σ8 at D4
      clear D3 D2 D1 hrg q1
      refine v1 _ _ (hSeq fun N2 v2 => ?_)
      refine e_swap (e_tup (e_cons (D4.rd hJ hr hb w.l.1 (lt4 w.l.2) (by decide) hE fun σ9 L D5 hr => ?_)))
      refine e_cons (D5.rd hJ hr hb w.p.1 (lt4 w.p.2) (by decide) hE fun σ10 L D6 hr => ?_)
      refine swpT (ble rfl) rfl ?_
      refine hCtx (fun l => All6 (l.cel = [((Str.ofString "cursor"), cc)]) (l.loc "parts" = some (.tup (y.1.sum.map .int))) (l.loc "lsize" = some (.int y.1.l)) (l.loc "psize" = some (.int y.1.p)) (l.loc "found" = some (.ref t)) (l.loc "last" = some (lastD Tp))) ⟨hJ, (by with_reducible first | assumption | exact loc_same | exact loc_ne (by decide) (by assumption) | exact loc_ne (by decide) loc_same | exact loc_ne (by decide) (loc_ne (by decide) (by assumption)) | exact loc_ne (by decide) (loc_ne (by decide) loc_same) | exact loc_ne (by decide) (loc_ne (by decide) (loc_ne (by decide) (by assumption))) | exact loc_ne (by decide) (loc_ne (by decide) (loc_ne (by decide) loc_same)) | exact loc_ne (by decide) (loc_ne (by decide) (loc_ne (by decide) (loc_ne (by decide) (by assumption)))) | exact loc_ne (by decide) (loc_ne (by decide) (loc_ne (by decide) (loc_ne (by decide) loc_same)))), (by with_reducible first | assumption | exact loc_same | exact loc_ne (by decide) (by assumption) | exact loc_ne (by decide) loc_same | exact loc_ne (by decide) (loc_ne (by decide) (by assumption)) | exact loc_ne (by decide) (loc_ne (by decide) loc_same) | exact loc_ne (by decide) (loc_ne (by decide) (loc_ne (by decide) (by assumption))) | exact loc_ne (by decide) (loc_ne (by decide) (loc_ne (by decide) loc_same)) | exact loc_ne (by decide) (loc_ne (by decide) (loc_ne (by decide) (loc_ne (by decide) (by assumption)))) | exact loc_ne (by decide) (loc_ne (by decide) (loc_ne (by decide) (loc_ne (by decide) loc_same)))), (by with_reducible first | assumption | exact loc_same | exact loc_ne (by decide) (by assumption) | exact loc_ne (by decide) loc_same | exact loc_ne (by decide) (loc_ne (by decide) (by assumption)) | exact loc_ne (by decide) (loc_ne (by decide) loc_same) | exact loc_ne (by decide) (loc_ne (by decide) (loc_ne (by decide) (by assumption))) | exact loc_ne (by decide) (loc_ne (by decide) (loc_ne (by decide) loc_same)) | exact loc_ne (by decide) (loc_ne (by decide) (loc_ne (by decide) (loc_ne (by decide) (by assumption)))) | exact loc_ne (by decide) (loc_ne (by decide) (loc_ne (by decide) (loc_ne (by decide) loc_same)))), loc_ne (by decide) (loc_ne (by decide) (loc_ne (by decide) (loc_ne (by decide) J.b))), loc_ne (by decide) (loc_ne (by decide) (loc_ne (by decide) (loc_ne (by decide) J.c)))⟩ fun ℓ2 C2 => ?_
      obtain ⟨jc, jp, jl, jz, jf, jt⟩ := C2
      refine v2 _ _ (hSeq fun N3 v3 => ?_)
      refine e_loc jp (e_loc jl (e_loc jz ?_))
      refine e_cons (D6.rd jc hr hb w.c.1 (lt1 w.c.2) (by decide) hE fun σ11 L D7 hr => ?_)
      refine ⟨ble rfl, ?_⟩
      refine hCtx (fun l => All4 (l.cel = [((Str.ofString "cursor"), cc)]) (l.loc "key" = some (kyD y.1)) (l.loc "found" = some (.ref t)) (l.loc "last" = some (lastD Tp))) ⟨jc, loc_same, loc_ne (by decide) jf, loc_ne (by decide) jt⟩ fun ℓ3 C3 => ?_
      clear jp jl jz jc jf jt
      obtain ⟨jc, jk, jf, jt⟩ := C3
      refine v3 _ _ (hSeq fun N4 v4 => ?_)
      refine e_swap (e_tup (e_cons (D7.rd jc hr hb w.b.1 (lt4 w.b.2) (by decide) hE fun σ12 L D8 hr => ?_)))
      refine e_cons (D8.rd jc hr hb (by have := w.n.1; omega) (lt4 w.n.2) (by decide) hE fun σ13 L D9 hr => ?_)
      refine swpT (ble rfl) rfl ?_
      refine hCtx (fun l => All6 (l.cel = [((Str.ofString "cursor"), cc)]) (l.loc "key" = some (kyD y.1)) (l.loc "birth" = some (.int y.2.b)) (l.loc "many" = some (.int y.2.n)) (l.loc "found" = some (.ref t)) (l.loc "last" = some (lastD Tp))) ⟨jc, (by with_reducible first | assumption | exact loc_same | exact loc_ne (by decide) (by assumption) | exact loc_ne (by decide) loc_same | exact loc_ne (by decide) (loc_ne (by decide) (by assumption)) | exact loc_ne (by decide) (loc_ne (by decide) loc_same) | exact loc_ne (by decide) (loc_ne (by decide) (loc_ne (by decide) (by assumption))) | exact loc_ne (by decide) (loc_ne (by decide) (loc_ne (by decide) loc_same)) | exact loc_ne (by decide) (loc_ne (by decide) (loc_ne (by decide) (loc_ne (by decide) (by assumption)))) | exact loc_ne (by decide) (loc_ne (by decide) (loc_ne (by decide) (loc_ne (by decide) loc_same)))), (by with_reducible first | assumption | exact loc_same | exact loc_ne (by decide) (by assumption) | exact loc_ne (by decide) loc_same | exact loc_ne (by decide) (loc_ne (by decide) (by assumption)) | exact loc_ne (by decide) (loc_ne (by decide) loc_same) | exact loc_ne (by decide) (loc_ne (by decide) (loc_ne (by decide) (by assumption))) | exact loc_ne (by decide) (loc_ne (by decide) (loc_ne (by decide) loc_same)) | exact loc_ne (by decide) (loc_ne (by decide) (loc_ne (by decide) (loc_ne (by decide) (by assumption)))) | exact loc_ne (by decide) (loc_ne (by decide) (loc_ne (by decide) (loc_ne (by decide) loc_same)))), (by with_reducible first | assumption | exact loc_same | exact loc_ne (by decide) (by assumption) | exact loc_ne (by decide) loc_same | exact loc_ne (by decide) (loc_ne (by decide) (by assumption)) | exact loc_ne (by decide) (loc_ne (by decide) loc_same) | exact loc_ne (by decide) (loc_ne (by decide) (loc_ne (by decide) (by assumption))) | exact loc_ne (by decide) (loc_ne (by decide) (loc_ne (by decide) loc_same)) | exact loc_ne (by decide) (loc_ne (by decide) (loc_ne (by decide) (loc_ne (by decide) (by assumption)))) | exact loc_ne (by decide) (loc_ne (by decide) (loc_ne (by decide) (loc_ne (by decide) loc_same)))), loc_ne (by decide) (loc_ne (by decide) jf), loc_ne (by decide) (loc_ne (by decide) jt)⟩ fun ℓ4 C4 => ?_
      clear jc jk jf jt
      obtain ⟨jc, jk, jb, jm, jf, jt⟩ := C4
      refine v4 _ _ (hSeq fun N5 v5 => ?_)
      refine ⟨[((Str.ofString "cursor"), cc)], by rw [jc]; rfl, ?_⟩
      refine e_call (e_cons (D9.rd jc hr hb (by omega) (lt1 (by have := w.k.2; omega)) (by decide) hE fun σ14 L D10 hr => ?_))
      refine e_pnil (fl_rngN fun r hrr => ?_)
      have D11 := D10.ext (Ext.refl.put (o := .range y.2.ps.length) hrr)
      have hrg : (σ14.put r (.range y.2.ps.length)) r = some (.range y.2.ps.length) := St.put_same
      generalize σ14.put r (.range y.2.ps.length) = σ15 at D11 hrg
      refine ⟨notItems_rng hrg, _, none, .range hrg (by have := w.k.2; omega), ?_⟩
      simp only [frz_n, thaw_n]
      refine compP_lenI plD y.2.ps (fun ps ℓ2 σ2 => ExA3 (fun _ => ℓ2.cel = [((Str.ofString "cursor"), cc)]) (fun L => Dec σ cc c cd t td e b Tp L σ2) (fun L => Rel f (ps.flatMap encPl ++ T'.flatMap encRow) L)) ?_ ?_ (by simp) ⟨L, rfl, D11, hr⟩
      · rintro z p ps ℓ2 σ2 K2 hm ⟨L, q1, D3, hr⟩ k2
        have hp := w.q p hm
        refine e_tgt ?_
        refine (e_tup (e_cons (D3.rd q1 (hr.cast encPl_app) hb hp.1.1 (lt1 hp.1.2) (by decide) hE fun σ3 L D4 hr => ?_)))
        refine e_cons (D4.rd q1 hr hb hp.2.1.1 (lt4 hp.2.1.2) (by decide) hE fun σ4 L D5 hr => ?_)
        refine e_cons (D5.rd q1 hr hb hp.2.2.1 (lt2 hp.2.2.2) (by decide) hE fun σ5 L D6 hr => ?_)
        exact ⟨ble rfl, k2 _ _ ⟨L, q1, D6, hr⟩⟩
      · rintro ℓ2 σ2 ⟨L, q1, D3, hr⟩ a ha'
        have D4 := D3.ext (Ext.refl.put (o := .list (y.2.ps.map plD)) ha')
        refine ⟨_, St.put_same, by have := w.k.2; simp; omega, ?_⟩
        generalize σ2.put a (.list (y.2.ps.map plD)) = σ8 at D4
        have hle : ∀ x ∈ Tp, kyCmp true y.1 x.1 = false := fun x hx => by
          rw [← e1, List.pairwise_append] at ha
          exact ha.2.2 x hx y (.head _)
        have hnew : Tp.lookup y.1 = none := lookup_none fun hm => by
          rw [← e1, List.map_append, List.nodup_append] at hd
          exact hd.2.2 _ hm _ (by simp) rfl
        refine v5 _ _ (hSeq fun N6 v6 => ?_)
        refine e_if (e_or (last_ok (loc_ne (by decide) jt) (loc_ne (by decide) jk) hle ?_))
        refine e_loc (loc_ne (by decide) jm) (e_int ?_)
        refine eqF (by have := w.n.1; omega) ?_
        refine e_loc loc_same ?_
        refine ⟨by have := w.k.2; simp; omega, ?_⟩
        refine leT (by have := w.k.1; simp; omega) ?_
        refine e_ifT (e_int ?_)
        refine leT (by have := w.k.2; simp; omega) ?_
        refine v6 _ _ (hSeq fun N7 v7 => ?_)
        refine e_loc loc_same (e_loc (loc_ne (by decide) jb) (e_loc (loc_ne (by decide) jm) ⟨ble rfl, ?_⟩))
        have D12 := D4.store (Tp ++ [y])
        refine e_loc (loc_ne (by decide) jf) (D4.ta.ent (e_loc (loc_ne (by decide) jk) ?_))
        refine oset_key (k := y.1) D4.ta.d (by
          rw [tabD_length]
          have := congrArg List.length e1
          rw [List.length_append] at this
          lia) ?_
        have e9 : dput y.1 (.tup [.tup (y.2.ps.map plD), .int y.2.b, .int y.2.n]) (tabD Tp) = tabD (Tp ++ [y]) := tabD_snoc hnew
        rw [e9]
        refine v7 _ _ (e_loc (loc_ne (by decide) jk) ?_)
        exact k _ _ ⟨Tp ++ [y], L, by rw [← e1]; simp, D12, hr, ⟨jc, loc_ne (by decide) (loc_ne (by decide) jf), by rw [lastD_snoc]; exact loc_same⟩⟩
  · clear hr
    rintro ℓ' σ' ⟨Tp, L, e1, D1, hr', J⟩
    rw [List.append_nil] at e1
    subst e1
    refine m2 _ _ (e_loc J.b ?_)
    cases f with
    | true => exact hQ rfl _ _ _ _ D1.x D1.ta
    | false =>
      obtain ⟨m, hm, _⟩ := hr'
      simp at hm
end Mine
end F_Ct8
section F_Ct9
open PySem PySem.W PySem.Spec PySem.Calls PyProof.Rows
namespace Mine
theorem C_279 {x : Int} {σ : St} {Q : D → St → Prop} {E : Addr → St → Prop} (hQ : ∀ k ∈ keysS, ∀ σ', Ext σ σ' → Q (kyD k) σ') : P_279 [.int x] σ Q E := by
  unfold P_279
  refine enter0 rfl rfl fun ℓ hl hc => ?_
  have h1 := hl "x" _ rfl
  have e3 : Builtin.Int.intBits 2 = 2 := by decide
  dsimp only [R_279]
  ((try dsimp only [sSeq, sNil, sRet, sExpr, sIf, sAsg, sAsgT, sSwap, sAsgA, sAsgI, sSet, ss_nil, ss_cons, pCall, pMeth, pMethB, pMethT, pCons, pNil, pTup, pList, pDict0, pInt, pStr, pNone, pBool, pBytes, pLoc, pCel, pBin, pCmp, pIf, pItem, pSlice, qPart, pAttr, bCmp, bChain, bNot, bAnd, bOr, bVal, loc_set, cel_set, List.length_cons, List.length_nil]); (try simp only [sSeq, sNil, sRet, sExpr, sIf, sAsg, sAsgT, sSwap, sAsgA, sAsgI, sSet, ss_nil, ss_cons, pCall, pMeth, pMethB, pMethT, pCons, pNil, pTup, pList, pDict0, pInt, pStr, pNone, pBool, pBytes, pLoc, pCel, pBin, pCmp, pIf, pItem, pSlice, qPart, pAttr, bCmp, bChain, bNot, bAnd, bOr, bVal, loc_set, cel_set, str_eq, String.reduceEq, String.reduceBEq, ↓reduceIte, List.length_cons, List.length_nil, h1, ob_pow, ob_sub, e3]))
  refine ⟨by decide, by decide, by decide, by decide, by decide, by decide, by decide, by decide, by decide, fun a ha => ?_⟩
  refine ⟨by decide, by decide, by decide, by decide, by decide, by decide, fun a' ha' => ?_⟩
  rw [ob_list]
  have hne : a ≠ a' := fun q => by rw [q, St.put_same] at ha'; cases ha'
  refine ⟨_, _, by rw [put_eq, if_neg hne, St.put_same], St.put_same, by decide, fun c hc => ?_⟩
  rw [ob_mod]
  refine ⟨by decide, ?_⟩
  rw [oi_list, Int.fmod_eq_emod_of_nonneg _ (by decide)]
  have h6 : x % 6 = 0 ∨ x % 6 = 1 ∨ x % 6 = 2 ∨ x % 6 = 3 ∨ x % 6 = 4 ∨ x % 6 = 5 := by lia
  rcases h6 with q | q | q | q | q | q <;> rw [q] <;> refine ⟨_, _, St.put_same, by decide, rfl, ?_⟩
  · exact hQ ⟨[1, 2, 3, 4], 32, 16, 1⟩ (by decide) _ (((Ext.refl.put ha).trans (Ext.refl.put ha')).trans (Ext.refl.put hc))
  · exact hQ ⟨[1, 2, 3, 5], 32, 16, 1⟩ (by decide) _ (((Ext.refl.put ha).trans (Ext.refl.put ha')).trans (Ext.refl.put hc))
  · exact hQ ⟨[1, 2, 3, 4], 48, 16, 1⟩ (by decide) _ (((Ext.refl.put ha).trans (Ext.refl.put ha')).trans (Ext.refl.put hc))
  · exact hQ ⟨[1, 2, 3, 4], 32, 32, 1⟩ (by decide) _ (((Ext.refl.put ha).trans (Ext.refl.put ha')).trans (Ext.refl.put hc))
  · exact hQ ⟨[1, 2, 3, 4], 32, 16, 0⟩ (by decide) _ (((Ext.refl.put ha).trans (Ext.refl.put ha')).trans (Ext.refl.put hc))
  · exact hQ ⟨[4294967295, 0, 0, 0], 65535, 16, 3⟩ (by decide) _ (((Ext.refl.put ha).trans (Ext.refl.put ha')).trans (Ext.refl.put hc))
noncomputable def plsS : List (List (Int × Int × Int)) := [[(0, 5, 2)], [(1, 4294967295, 65535), (0, 9, 1)], [(2, 0, 3), (1, 7, 3), (0, 1, 3)]]
theorem C_286 {x : Int} {σ : St} {Q : D → St → Prop} {E : Addr → St → Prop} (hQ : ∀ ps ∈ plsS, ∀ σ', Ext σ σ' → Q (psD ps) σ') : P_286 [.int x] σ Q E := by
  unfold P_286
  refine enter0 rfl rfl fun ℓ hl hc => ?_
  have h1 := hl "x" _ rfl
  dsimp only [R_286]
  refine ⟨ble rfl, ble rfl, ble rfl, ble rfl, ble rfl, ble rfl, ble rfl, ble rfl, ble rfl, ble rfl, fun a ha => ?_⟩
  simp_wf
  refine ⟨by decide, ?_⟩
  rw [Int.fmod_eq_emod_of_nonneg _ (by decide)]
  have h6 : x % 3 = 0 ∨ x % 3 = 1 ∨ x % 3 = 2 := by lia
  rcases h6 with q | q | q <;> rw [q] <;> refine ⟨_, _, St.put_same, by decide, rfl, ?_⟩
  · exact hQ [(0, 5, 2)] (by decide) _ (Ext.refl.put ha)
  · exact hQ [(1, 4294967295, 65535), (0, 9, 1)] (by decide) _ (Ext.refl.put ha)
  · exact hQ [(2, 0, 3), (1, 7, 3), (0, 1, 3)] (by decide) _ (Ext.refl.put ha)
theorem C_303 {f : Addr} {σ : St} {Q : D → St → Prop} {E : Addr → St → Prop} (h : fLam 5 f [] σ Q (fun C σ' => match told.lookup C with | some m => Q (.str m) σ' | none => False)) : P_303 [.ref f] σ Q E := by
  unfold P_303
  refine enter0 rfl rfl fun ℓ hl hc => ?_
  have h1 := hl "call" _ rfl
  dsimp only [R_303]
  exact ⟨f, h1, h⟩
end Mine
end F_Ct9
section F_Ct10
open PySem PySem.W PySem.Spec PySem.Calls PyProof.Rows
namespace Mine
theorem sum_perm {l m : List Int} (h : l.Perm m) : l.sum = m.sum := by
  induction h with
  | nil => rfl
  | cons x _ ih => simp only [List.sum_cons, ih]
  | swap x y l => simp only [List.sum_cons]; lia
  | trans _ _ ih1 ih2 => exact ih1.trans ih2
section
variable {β : Type} {T : List (Ky × β)} {k k' : Ky} {e : β}
theorem lookup_mem (h : T.lookup k = some e) : (k, e) ∈ T := by
  induction T with
  | nil => cases h
  | cons x T ih =>
    rw [List.lookup_cons] at h
    split at h
    · rename_i q; cases h; rw [beq_iff_eq.mp q]; exact .head _
    · exact .tail _ (ih h)
theorem lookup_keys : (T.lookup k).isSome = (T.map (·.1)).contains k := by
  induction T with
  | nil => rfl
  | cons x T ih =>
    rw [List.lookup_cons, List.map_cons, List.contains_cons]
    cases q : k == x.1 with
    | true => simp
    | false => simpa using ih
theorem lookup_map_put : (T.map fun x => if x.1 = k then (x.1, e) else x).lookup k' = if k' = k ∧ (T.lookup k).isSome = true then some e else T.lookup k' := by
  induction T with
  | nil => simp
  | cons x T ih =>
    obtain ⟨a, b⟩ := x
    rw [List.map_cons, List.lookup_cons]
    by_cases h1 : a = k
    · subst h1
      simp only [if_true, List.lookup_cons, beq_self_eq_true, ih]
      by_cases h2 : k' = a
      · subst h2; simp
      · simp [h2, beq_false_of_ne h2]
    · have hk : List.lookup k ((a, b) :: T) = T.lookup k := by rw [List.lookup_cons, beq_false_of_ne (fun q => h1 q.symm)]
      rw [hk, if_neg h1]
      simp only [List.lookup_cons, ih]
      by_cases h2 : k' = a
      · subst h2; simp [h1]
      · rw [beq_false_of_ne h2]
theorem dput_lookup : (dput k e T).lookup k' = if k' = k then some e else T.lookup k' := by
  unfold dput
  split
  · rename_i h; rw [lookup_map_put]; simp [h]
  · rename_i h
    rw [List.lookup_append]
    by_cases q : k' = k
    · subst q
      have : T.lookup k' = none := Option.not_isSome_iff_eq_none.mp h
      rw [this]; simp
    · simp [q, List.lookup_cons, beq_false_of_ne q]
theorem ddel_lookup : (ddel k T).lookup k' = if k' = k then none else T.lookup k' := by
  unfold ddel
  induction T with
  | nil => simp
  | cons x T ih =>
    obtain ⟨a, b⟩ := x
    rw [List.filter_cons]
    by_cases h1 : a = k
    · subst h1
      simp only [ne_eq, not_true_eq_false, decide_false, Bool.false_eq_true, if_false, List.lookup_cons]
      rw [show List.filter (fun x : Ky × β => decide ¬x.1 = a) T = List.filter (fun x => decide (x.1 ≠ a)) T from rfl, ih]
      by_cases h2 : k' = a
      · simp [h2]
      · simp [h2, beq_false_of_ne h2]
    · rw [if_pos (by simpa using h1), List.lookup_cons, List.lookup_cons, ih]
      by_cases h2 : k' = a
      · subst h2; simp [h1]
      · rw [beq_false_of_ne h2]
theorem dput_keys_in (h : (T.lookup k).isSome = true) : (dput k e T).map (·.1) = T.map (·.1) := by
  unfold dput
  rw [if_pos h, List.map_map]
  refine List.map_congr_left fun x _ => ?_
  simp only [Function.comp]
  split <;> rfl
theorem dput_keys_new (h : T.lookup k = none) : (dput k e T).map (·.1) = T.map (·.1) ++ [k] := by
  unfold dput
  rw [h]; simp
theorem ddel_keys : (ddel k T).map (·.1) = (T.map (·.1)).filter fun x => decide (x ≠ k) := by
  unfold ddel
  rw [List.filter_map]; rfl
theorem mem_dput {x : Ky × β} (h : x ∈ dput k e T) : x ∈ T ∨ x = (k, e) := by
  unfold dput at h
  split at h
  · obtain ⟨y, hy, rfl⟩ := List.mem_map.mp h
    split
    · rename_i q; exact .inr (by rw [← q])
    · exact .inl hy
  · rcases List.mem_append.mp h with h | h
    · exact .inl h
    · exact .inr (List.mem_singleton.mp h)
theorem mem_ddel {x : Ky × β} (h : x ∈ ddel k T) : x ∈ T := (List.mem_filter.mp h).1
end
structure GoodT (m : Int) (T : Tab) : Prop where
  nd : (T.map (·.1)).Nodup
  ks : ∀ k ∈ T.map (·.1), k ∈ keysS
  ps : ∀ x ∈ T, x.2.ps ∈ plsS
  b : ∀ x ∈ T, 0 ≤ x.2.b ∧ x.2.b ≤ 7
  n : ∀ x ∈ T, 1 ≤ x.2.n ∧ x.2.n ≤ m
theorem GoodT.nil {m} : GoodT m [] := ⟨List.nodup_nil, (fun _ h => nomatch h), (fun _ h => nomatch h), (fun _ h => nomatch h), (fun _ h => nomatch h)⟩
theorem GoodT.mono {m m' T} (h : m ≤ m') (g : GoodT m T) : GoodT m' T := ⟨g.nd, g.ks, g.ps, g.b, fun x hx => ⟨(g.n x hx).1, Int.le_trans (g.n x hx).2 h⟩⟩
theorem GoodT.put {m T k e} (g : GoodT m T) (hk : k ∈ keysS) (h1 : e.ps ∈ plsS) (h2 : 0 ≤ e.b ∧ e.b ≤ 7) (h3 : 1 ≤ e.n ∧ e.n ≤ m) : GoodT m (dput k e T) := by
  refine ⟨?_, ?_, fun x hx => ?_, fun x hx => ?_, fun x hx => ?_⟩
  · cases h : T.lookup k with
    | some x => rw [dput_keys_in (by rw [h]; rfl)]; exact g.nd
    | none =>
      rw [dput_keys_new h, List.nodup_append]
      refine ⟨g.nd, by simp, fun a ha b hb q => ?_⟩
      cases List.mem_singleton.mp hb
      subst q
      have := lookup_keys (T := T) (k := a)
      rw [h] at this
      simp only [Option.isSome_none] at this
      rw [List.contains_iff_mem.mpr ha] at this
      cases this
  · intro x hx
    obtain ⟨y, hy, rfl⟩ := List.mem_map.mp hx
    rcases mem_dput hy with h | h
    · exact g.ks _ (List.mem_map.mpr ⟨y, h, rfl⟩)
    · rw [h]; exact hk
  · rcases mem_dput hx with h | h
    · exact g.ps x h
    · rw [h]; exact h1
  · rcases mem_dput hx with h | h
    · exact g.b x h
    · rw [h]; exact h2
  · rcases mem_dput hx with h | h
    · exact g.n x h
    · rw [h]; exact h3
theorem GoodT.del {m T k} (g : GoodT m T) : GoodT m (ddel k T) := by
  refine ⟨?_, ?_, fun x hx => g.ps x (mem_ddel hx), fun x hx => g.b x (mem_ddel hx), fun x hx => g.n x (mem_ddel hx)⟩
  · rw [ddel_keys]; exact g.nd.sublist List.filter_sublist
  · intro x hx
    obtain ⟨y, hy, rfl⟩ := List.mem_map.mp hx
    exact g.ks _ (List.mem_map.mpr ⟨y, mem_ddel hy, rfl⟩)
theorem GoodT.at {m T k x} (g : GoodT m T) (h : T.lookup k = some x) : x.ps ∈ plsS ∧ (0 ≤ x.b ∧ x.b ≤ 7) ∧ 1 ≤ x.n ∧ x.n ≤ m ∧ k ∈ keysS :=
  have hm := lookup_mem h
  ⟨g.ps _ hm, g.b _ hm, (g.n _ hm).1, (g.n _ hm).2, g.ks _ (List.mem_map.mpr ⟨_, hm, rfl⟩)⟩
theorem mem_sortT {m T} (g : GoodT m T) {x : Ky × Ent} : x ∈ sortT T ↔ x ∈ T := by
  unfold sortT
  rw [List.mem_filterMap]
  constructor
  · rintro ⟨k, _, h⟩
    cases q : T.lookup k with
    | none => rw [q] at h; cases h
    | some e => rw [q] at h; cases h; exact lookup_mem q
  · intro h
    exact ⟨x.1, g.ks _ (List.mem_map.mpr ⟨x, h, rfl⟩), by rw [lookup_nodup g.nd x h]; rfl⟩
theorem keysS_nd : keysS.Nodup := by decide
theorem keysS_asc : keysS.Pairwise fun a b => kyCmp true b a = false := by decide +kernel
theorem sortT_asc (T : Tab) : (sortT T).Pairwise fun x y => kyCmp true y.1 x.1 = false := by
  refine List.Pairwise.filterMap _ (fun a a' h b hb b' hb' => ?_) keysS_asc
  cases q : T.lookup a with
  | none => rw [q] at hb; cases hb
  | some e =>
    cases q' : T.lookup a' with
    | none => rw [q'] at hb'; cases hb'
    | some e' => rw [q] at hb; rw [q'] at hb'; cases hb; cases hb'; exact h
theorem sortT_nd (T : Tab) : ((sortT T).map (·.1)).Nodup := by
  refine List.pairwise_map.mpr (List.Pairwise.filterMap _ (fun a a' h b hb b' hb' => ?_) keysS_nd)
  cases q : T.lookup a with
  | none => rw [q] at hb; cases hb
  | some e =>
    cases q' : T.lookup a' with
    | none => rw [q'] at hb'; cases hb'
    | some e' => rw [q] at hb; rw [q'] at hb'; cases hb; cases hb'; exact h
theorem nd_of_keys {T : Tab} (h : (T.map (·.1)).Nodup) : T.Nodup := (List.pairwise_map.mp h).imp fun h q => h (by rw [q])
theorem sortT_perm {m T} (g : GoodT m T) : (sortT T).Perm T := (List.perm_ext_iff_of_nodup (nd_of_keys (sortT_nd T)) (nd_of_keys g.nd)).mpr fun x => mem_sortT g
theorem GoodT.sort {m T} (g : GoodT m T) : GoodT m (sortT T) :=
  ⟨sortT_nd T, fun k hk => by obtain ⟨y, hy, rfl⟩ := List.mem_map.mp hk; exact g.ks _ (List.mem_map.mpr ⟨y, (mem_sortT g).mp hy, rfl⟩), fun x hx => g.ps x ((mem_sortT g).mp hx), fun x hx => g.b x ((mem_sortT g).mp hx), fun x hx => g.n x ((mem_sortT g).mp hx)⟩
theorem sort_len {m T} (g : GoodT m T) : (sortT T).length = T.length := (sortT_perm g).length_eq
theorem GoodT.len {m T} (g : GoodT m T) : T.length ≤ 6 := by
  rw [← sort_len g]
  exact List.length_filterMap_le ..
theorem sort_lookup {m T} (g : GoodT m T) (k : Ky) : (sortT T).lookup k = T.lookup k := by
  cases h : T.lookup k with
  | some e => exact lookup_nodup (sortT_nd T) (k, e) ((mem_sortT g).mpr (lookup_mem h))
  | none =>
    cases h' : (sortT T).lookup k with
    | none => rfl
    | some e =>
      have := lookup_nodup g.nd _ ((mem_sortT g).mp (lookup_mem h'))
      rw [h] at this; cases this
theorem sort_sort {m T} (g : GoodT m T) : sortT (sortT T) = sortT T := by
  show keysS.filterMap _ = keysS.filterMap _
  exact fm_congr fun k _ => by rw [sort_lookup g]
theorem saved_sort {m T} (g : GoodT m T) : savedT (sortT T) = savedT T := sum_perm ((sortT_perm g).map _)
theorem sort_keys_eq {m T} (g : GoodT m T) : (sortT T).map (·.1) = keysS.filter fun k => (T.map (·.1)).contains k := by
  unfold sortT
  rw [List.map_filterMap]
  induction keysS with
  | nil => rfl
  | cons k ks ih =>
    rw [List.filterMap_cons, List.filter_cons, ← lookup_keys]
    cases h : T.lookup k with
    | none => simpa using ih
    | some e => simpa using ih
theorem keys_wf : ∀ k ∈ keysS, (k.sum.length = 4 ∧ ∀ i ∈ k.sum, 0 ≤ i ∧ i < 4294967296) ∧ (0 ≤ k.l ∧ k.l < 4294967296) ∧ (0 ≤ k.p ∧ k.p < 4294967296) ∧ 0 ≤ k.c ∧ k.c < 256 := by decide +kernel
theorem pls_wf : ∀ ps ∈ plsS, (1 ≤ ps.length ∧ ps.length ≤ 3) ∧ ∀ y ∈ ps, (0 ≤ y.1 ∧ y.1 < 256) ∧ (0 ≤ y.2.1 ∧ y.2.1 < 4294967296) ∧ (0 ≤ y.2.2 ∧ y.2.2 < 65536) := by decide +kernel
theorem GoodT.wf {m T} (g : GoodT m T) (hm : m ≤ 1000) : ∀ x ∈ T, WfRow x := fun x hx => by
  obtain ⟨a1, a2, a3, a4⟩ := keys_wf _ (g.ks _ (List.mem_map.mpr ⟨x, hx, rfl⟩))
  obtain ⟨b1, b2⟩ := pls_wf _ (g.ps x hx)
  have := g.b x hx
  have := g.n x hx
  exact ⟨a1, a2, a3, a4, by omega, by omega, b1, b2⟩
theorem small_mul {a b : Int} (h0 : 0 ≤ a) (h1 : a < 2 ^ 40) : IntMulOk a b := by
  refine IntMulOk.of_left ?_
  unfold Builtin.Int.intBits
  split
  · omega
  · have : a.natAbs.log2 < 64 := (Nat.log2_lt (by rename_i q; simp at q; lia)).mpr (by omega)
    omega
theorem GoodT.saved {m T} (g : GoodT m T) (hm : m ≤ 1000) : ∀ x ∈ T, 0 ≤ x.2.n ∧ x.2.n < 2 ^ 40 ∧ x.2.ps.length ≤ 1000 ∧ IntMulOk (x.2.n - 1) (cnts x.2.ps) := fun x hx => by
  have h1 := g.n x hx
  have h2 := (pls_wf _ (g.ps x hx)).1
  exact ⟨by omega, by omega, by lia, small_mul (by omega) (by omega)⟩
end Mine
end F_Ct10
section F_Ct11
open PySem PySem.W PySem.Spec PySem.Calls PyProof.Rows
namespace Mine
noncomputable def entL (x : Ent) : AObj := .list [psD x.ps, .int x.b, .int x.n]
structure WR (σ : St) (T : Tab) (es : List (Ky × D)) : Prop where
  keys : es.map (·.1) = T.map (·.1)
  at_ : ∀ k x, T.lookup k = some x → ∃ a, es.lookup k = some (.ref a) ∧ σ a = some (entL x)
  inj : ∀ k k' a, es.lookup k = some (.ref a) → es.lookup k' = some (.ref a) → k = k'
noncomputable def WldS (σ : St) (w : Addr) (T : Tab) : Prop := ∃ es, σ w = some (.dict es) ∧ WR σ T es
theorem WR.mono {σ σ' T es} (x : WR σ T es) (h : ∀ a l, σ a = some (.list l) → σ' a = some (.list l)) : WR σ' T es := ⟨x.keys, fun k e q => let ⟨a, h1, h2⟩ := x.at_ k e q; ⟨a, h1, h a _ h2⟩, x.inj⟩
theorem WldS.ext {σ σ' w T} (x : WldS σ w T) (h : Ext σ σ') : WldS σ' w T := let ⟨es, h1, h2⟩ := x; ⟨es, h _ _ h1, h2.mono fun a l q => h _ _ q⟩
theorem WldS.sub {σ σ' xs w T} (x : WldS σ w T) (h : Sub xs σ σ') (h1 : w ∉ xs) (h2 : ∀ a ∈ xs, ∀ l, σ a ≠ some (.list l)) : WldS σ' w T := let ⟨es, e1, e2⟩ := x; ⟨es, h _ _ e1 h1, e2.mono fun a l q => h _ _ q fun z => h2 a z l q⟩
theorem WR.len {σ T es} (x : WR σ T es) : es.length = T.length := by have := congrArg List.length x.keys; simpa using this
theorem WR.isSome {σ T es} (x : WR σ T es) (k : Ky) : (es.lookup k).isSome = (T.lookup k).isSome := by rw [lookup_keys, lookup_keys, x.keys]
theorem wr_nil {σ : St} : WR σ [] [] := ⟨rfl, fun _ _ h => (by cases h), fun _ _ _ h => (by cases h)⟩
theorem WR.upd {σ T es k x a y} (w : WR σ T es) (hk : T.lookup k = some x) (ha : es.lookup k = some (.ref a)) : WR (σ.put a (entL y)) (dput k y T) es := by
  refine ⟨by rw [w.keys, dput_keys_in (by rw [hk]; rfl)], fun k' z h => ?_, w.inj⟩
  rw [dput_lookup] at h
  split at h
  · rename_i q; subst q; cases h; exact ⟨a, ha, St.put_same⟩
  · rename_i q
    obtain ⟨a', h1, h2⟩ := w.at_ k' z h
    exact ⟨a', h1, by rw [put_eq, if_neg fun (e : a' = a) => q (w.inj _ _ a (e ▸ h1) ha)]; exact h2⟩
theorem WR.new {σ T es k y c} (w : WR σ T es) (hc : σ c = some (entL y)) (hf : ∀ k', es.lookup k' ≠ some (.ref c)) : WR σ (dput k y T) (dput k (.ref c) es) := by
  refine ⟨?_, fun k' z h => ?_, fun k1 k2 a h1 h2 => ?_⟩
  · have hs := w.isSome k
    cases h : T.lookup k with
    | some x =>
      rw [h] at hs
      rw [dput_keys_in hs, dput_keys_in (by rw [h]; rfl), w.keys]
    | none =>
      rw [h] at hs
      rw [dput_keys_new (by simpa using hs), dput_keys_new h, w.keys]
  · rw [dput_lookup] at h ⊢
    split at h
    · rename_i q; cases h; exact ⟨c, by rw [if_pos q], hc⟩
    · rename_i q
      obtain ⟨a', h1, h2⟩ := w.at_ k' z h
      exact ⟨a', by rw [if_neg q]; exact h1, h2⟩
  · rw [dput_lookup] at h1 h2
    split at h1
    · rename_i q
      cases h1
      split at h2
      · rename_i q'; rw [q, q']
      · exact absurd h2 (hf _)
    · split at h2
      · cases h2; exact absurd h1 (hf _)
      · exact w.inj _ _ a h1 h2
theorem WR.del {σ T es k} (w : WR σ T es) : WR σ (ddel k T) (ddel k es) := by
  refine ⟨by rw [ddel_keys, ddel_keys, w.keys], fun k' z h => ?_, fun k1 k2 a h1 h2 => ?_⟩
  · rw [ddel_lookup] at h ⊢
    split at h
    · cases h
    · rename_i q
      rw [if_neg q]; exact w.at_ k' z h
  · rw [ddel_lookup] at h1 h2
    split at h1
    · cases h1
    · split at h2
      · cases h2
      · exact w.inj _ _ a h1 h2
theorem kyData {σ : St} (k : Ky) : Tl σ (kyD k) (kyP k) := tl_ky k
theorem rowData {σ : St} (x : Ky × Ent) : Tl σ (rowD x) (rowP x) := .tup (.cons (kyData _) (.cons (psData _) (.cons (.int _) (.cons (.int _) .nil))))
theorem rowsData {σ : St} : ∀ T : Tab, Tls σ (T.map rowD) (T.map rowP)
  | [] => .nil
  | x :: T => .cons (rowData x) (rowsData T)
theorem row_lay (x : Ky × Ent) {n} : Lay (n + 3) (rowP x) := .tup (Lay.cons (lay_ky _) (Lay.cons (lay_ps _) (Lay.cons .int (Lay.cons .int Lay.nil))))
theorem rows_lay (T : Tab) {n} : Lay (n + 4) (.list (T.map rowP)) := .list fun d hd => by obtain ⟨x, _, rfl⟩ := List.mem_map.mp hd; exact row_lay x
theorem keys_pick {T : Tab} {es : List (Ky × D)} {m} (g : GoodT m T) (hk : es.map (·.1) = T.map (·.1)) {p : List Nat} (h1 : ∀ i ∈ p, i < (es.map (·.1)).length) (h2 : p.map (fun i => (es.map (·.1)).getD i dK) = keysS.filter (fun k => (es.map (·.1)).contains k)) :
    p.map (fun i => (es.map fun e => kyD e.1).getD i .none) = (sortT T).map fun x => kyD x.1 := by
  have e1 : p.map (fun i => (es.map fun e => kyD e.1).getD i .none) = (p.map fun i => (es.map (·.1)).getD i dK).map kyD := by
    rw [List.map_map]
    refine List.map_congr_left fun i hi => ?_
    have hi := h1 i hi
    rw [List.length_map] at hi
    simp [List.getD, hi]
  rw [e1, h2, hk, ← sort_keys_eq g, List.map_map]
  rfl
theorem rows_eq {σ : St} {a b : Addr} {T : Tab} {n s : Int} {l l' : Addr} {N : Bool → Prop} (ha : σ a = some (.list [.ref l, .int n, .int s])) (hb : σ b = some (.list [.ref l', .int n, .int s])) (hl : σ l = some (.list (T.map rowD))) (hl' : σ l' = some (.list (T.map rowD))) (h : N true) : opCmp .Eq (.ref a) (.ref b) σ N := by
  rw [oc_eqR]
  have L : Lay 20 (.list [.list (T.map rowP), .int n, .int s]) := .list (Lay.cons (rows_lay T) (Lay.cons .int (Lay.cons .int Lay.nil)))
  refine ⟨_, _, .list ha (.cons (.list hl (rowsData T)) (.cons (.int _) (.cons (.int _) .nil))), .list hb (.cons (.list hl' (rowsData T)) (.cons (.int _) (.cons (.int _) .nil))), L, L, ?_⟩
  rw [eqv_of_eq L rfl]; exact h
theorem litem {σ : St} {r : Addr} {xs : List D} {d : D} {Q : D → St → Prop} (n : Nat) (hr : σ r = some (.list xs)) (h : xs[n]? = some d) (hn : n < 1000) (hq : Q d σ) : opItem (.ref r) (.int (n : Int)) σ Q := ⟨xs, d, hr, ⟨by omega, by omega⟩, h, hq⟩
theorem C_315 {σ : St} {t td e ch w T m} {Q : D → St → Prop} {E : Addr → St → Prop} (S : TabS σ t td e ch T) (W : WldS σ w T) (g : GoodT m T) (hm' : m ≤ 1000)
    (hQ : ∀ σ', Ext σ σ' → Q (.bool true) σ') : P_315 [.ref t, .ref w] σ Q E := by
  unfold P_315
  refine enterC rfl fun ℓ σ1 hl x1 hc1 hc2 hc3 => ?_
  obtain ⟨cw, hc⟩ := cel1 (x := "world") hc1
  have hcw : σ1 cw = some (.cell (some (.ref w))) := (hc3 ("world", cw) (by rw [hc]; exact .head _)).2
  have hcl : List.lookup (Str.ofString "world") ℓ.cel = some cw := by rw [hc]; simp
  have h1 := hl "table" _ rfl
  have S1 := S.ext x1
  obtain ⟨es, W1, W2⟩ := W.ext x1
  dsimp only [R_315]
  refine hSeq fun M1 m1 => ?_
  refine ⟨[(Str.ofString "world", cw)], by rw [hc]; rfl, ?_⟩
  simp_wf
  refine e_pnil (fl_srtD' W1 ?_)
  refine ⟨by rw [W2.keys]; exact g.nd, by rw [W2.keys]; exact g.ks, by rw [List.length_map, W2.len]; exact g.len, fun p r1 r2 c hcc => ?_⟩
  rw [keys_pick g W2.keys r1 r2]
  refine ⟨notItems_list St.put_same, _, some c, .list St.put_same (by rw [List.length_map, sort_len g]; have := g.len; omega), ?_⟩
  simp only [frz_put hcc, thaw_put]
  refine compP_mapI (fun x : Ky × Ent => kyD x.1) rowD (sortT T) (fun _ ℓ2 σ2 => ℓ2.cel = [(Str.ofString "world", cw)] ∧ σ2 = σ1) ?_ ?_ ⟨rfl, rfl⟩
  · intro y T' ℓ2 σ2 K2 hm h2 k2
    have q1 := h2.1
    have q2 := h2.2
    clear h2
    subst q2
    obtain ⟨a, ha1, ha2⟩ := W2.at_ _ _ (lookup_nodup g.nd y ((mem_sortT g).mp hm))
    have hcl2 : List.lookup (Str.ofString "world") ℓ2.cel = some cw := by rw [q1]; simp
    refine e_tgt (e_tup (e_cons (e_loc loc_same (e_cons (e_cel hcl2 hcw (e_loc loc_same (key_ok (d := .ref a) W1 ha1 (e_int (litem 0 ha2 rfl (by decide) ?_)))))))))
    refine e_cons (e_cel hcl2 hcw (e_loc loc_same (key_ok (d := .ref a) W1 ha1 (e_int (litem 1 ha2 rfl (by decide) ?_)))))
    refine e_cons (e_cel hcl2 hcw (e_loc loc_same (key_ok (d := .ref a) W1 ha1 (e_int (litem 2 ha2 rfl (by decide) ⟨ble rfl, ?_⟩)))))
    exact k2 _ _ ⟨q1, rfl⟩
  · intro ℓ2 σ2 h2 a haa
    have q2 := h2.2
    clear h2
    subst q2
    have y1 : Ext σ2 ((σ2.put c (.list ((sortT T).map fun x => kyD x.1))).put a (.list ((sortT T).map rowD))) := (Ext.refl.put hcc).trans (Ext.refl.put haa)
    have hra : ((σ2.put c (.list ((sortT T).map fun x => kyD x.1))).put a (.list ((sortT T).map rowD))) a = some (.list ((sortT T).map rowD)) := St.put_same
    generalize ((σ2.put c (.list ((sortT T).map fun x => kyD x.1))).put a (.list ((sortT T).map rowD))) = σ3 at y1 hra
    refine m1 _ _ (hSeq fun M2 m2 => ?_)
    refine ⟨[], by rw [cel_set, hc]; rfl, ?_⟩
    refine e_loc loc_same ⟨trivial, _, some a, .list hra (by rw [List.length_map, sort_len g]; have := g.len; omega), ?_⟩
    refine compP_mapI rowD (fun x => D.int ((x.2.n - 1) * cnts x.2.ps)) (sortT T) (fun _ ℓ4 σ4 => Ext (σ3.frz (some a)) σ4) ?_ ?_ Ext.refl
    · intro y T' ℓ4 σ4 K4 hm z1 k4
      have hz := g.sort.saved hm' y hm
      refine ⟨_, rfl, rfl, ?_⟩
      refine e_loc loc_same (e_int ?_)
      refine obSub ⟨[], rfl, e_loc (loc_ne (by decide) (loc_ne (by decide) loc_same)) ?_⟩
      refine ⟨notItems_tup, _, none, .tup (by have := hz.2.2.1; simp; omega), compP_nm cntF (fun z hz ℓ2 K2 q1 q2 q3 => ?_) fun c hcn => ?_⟩
      · obtain ⟨w, hw, rfl⟩ := List.mem_map.mp hz
        exact e_loc q1 (e_int (item_ok 2 rfl (by decide) q3))
      · have e1 : (y.2.ps.map plD).map cntF = y.2.ps.map fun x => D.int x.2.2 := by rw [List.map_map]; rfl
        rw [e1]
        simp only [thaw_id] at hcn ⊢
        exact ⟨_, _, St.put_same, intsOf_map _ _, hz.2.2.2, k4 _ _ (z1.trans (Ext.refl.put hcn))⟩
    · intro ℓ4 σ4 z1
      have z2 := frz_ext z1
      generalize σ4.thaw σ3 (some a) = σ5 at z2
      intro a5 h5
      have z3 := z2.trans (Ext.refl.put (o := .list ((sortT T).map fun x => D.int ((x.2.n - 1) * cnts x.2.ps))) h5)
      refine ⟨_, _, St.put_same, intsOf_map _ _, ?_⟩
      generalize σ5.put a5 (.list ((sortT T).map fun x => D.int ((x.2.n - 1) * cnts x.2.ps))) = σ6 at z3
      have S6 := S1.ext (y1.trans z3)
      refine m2 _ _ ?_
      have h1 := loc_ne (s := "table") (t := "saved") (e := .int (((sortT T).map fun x => (x.2.n - 1) * cnts x.2.ps).sum)) (by decide) (loc_ne (t := "rows") (e := .ref a) (by decide) h1)
      refine e_seq (e_ret (e_cmp (e_list (e_cons (e_loc h1 (S6.meth rfl rfl (C_253 S6 g.len g.nd g.ks fun r σ7 x7 hr7 => ?_)))))))
      have S7 := S6.ext x7
      have x7' : Ext σ7 (σ7.put r (.list ((sortT T).map rowD))) := Ext.refl.put hr7
      have S8 := S7.ext x7'
      refine e_cons (e_loc h1 (S8.meth rfl rfl (C_243 S8 (by have := g.len; omega) ?_)))
      refine e_cons (e_loc h1 (S8.meth rfl rfl (C_248 S8 (by have := g.len; omega) (g.saved hm') fun σ9 x9 => ?_)))
      have es : ((sortT T).map fun x => (x.2.n - 1) * cnts x.2.ps).sum = savedT T := saved_sort g
      refine ⟨ble rfl, fun b1 hb1 => ?_⟩
      have x10 : Ext σ9 (σ9.put b1 (.list [.ref r, .int T.length, .int (savedT T)])) := Ext.refl.put hb1
      have hra10 := (((z3.trans x7).trans x7').trans x9).trans x10 _ _ (by exact hra)
      have hr10 := x10 _ _ (x9 _ _ (St.put_same : (σ7.put r (.list ((sortT T).map rowD))) r = _))
      have hb10 : (σ9.put b1 (.list [.ref r, .int T.length, .int (savedT T)])) b1 = some (.list [.ref r, .int T.length, .int (savedT T)]) := St.put_same
      generalize σ9.put b1 (.list [.ref r, .int T.length, .int (savedT T)]) = σ10 at x10 hra10 hr10 hb10
      refine e_list (e_cons (e_loc (loc_ne (by decide) loc_same) (e_cons (e_call (e_cons (e_loc (loc_ne (by decide) loc_same) (e_pnil (fl_lenL' hra10 ?_))))))))
      rw [List.length_map, sort_len g]
      refine ⟨by have := g.len; omega, e_cons (e_loc loc_same ?_)⟩
      rw [es]
      refine ⟨ble rfl, fun b2 hb2 => ?_⟩
      have x11 : Ext σ10 (σ10.put b2 (.list [.ref a, .int T.length, .int (savedT T)])) := Ext.refl.put hb2
      refine rows_eq (x11 _ _ hb10) St.put_same (x11 _ _ hr10) (x11 _ _ hra10) (hQ _ ?_)
      exact x1.trans (y1.trans (z3.trans (x7.trans (x7'.trans (x9.trans (x10.trans x11))))))
end Mine
end F_Ct11
section F_Ct12
open PySem PySem.W PySem.Spec PySem.Calls PyProof.Rows
namespace Mine
noncomputable def LamT (σ : St) (P : Addr) (q : Str) : Prop := ∃ ps, σ P = some (.tab ps) ∧ ∀ p ∈ ps, σ p.2.2 = some (.code q)
theorem LamT.ext {σ σ' P q} (x : LamT σ P q) (h : Ext σ σ') : LamT σ' P q := let ⟨ps, h1, h2⟩ := x; ⟨ps, h _ _ h1, fun p hp => h _ _ (h2 p hp)⟩
theorem LamT.sub {σ σ' P q xs} (x : LamT σ P q) (h : Sub xs σ σ') (h1 : P ∉ xs) (h2 : ∀ a ∈ xs, σ a ≠ some (.code q)) : LamT σ' P q := let ⟨ps, e1, e2⟩ := x; ⟨ps, h _ _ e1 h1, fun p hp => h _ _ (e2 p hp) fun z => h2 _ z (e2 p hp)⟩
theorem among_mem {pos : Pos} {c : Addr} : ∀ {ps : List (Int × Int × Addr)}, among pos ps = some c → ∃ p ∈ ps, p.2.2 = c
  | [], h => by cases h
  | (l, k, d) :: r, h => by
    unfold among at h
    split at h
    · cases h; exact ⟨_, .head _, rfl⟩
    · obtain ⟨p, h1, h2⟩ := among_mem h; exact ⟨p, .tail _ h1, h2⟩
theorem lam_ok {n : Nat} {P : Addr} {q0 : Str} {names : List (Str × NameKind)} {pos : Pos} {P' : EvP} {ℓ : Lc} {σ : St} {cl : List (Str × Addr)} {Q : D → St → Prop} {E : Addr → St → Prop} (hT : LamT σ P (q0 ++ "<lambda>")) (hcl : cloOf ℓ.cel names [] = some cl)
    (h : ∀ f c o σ', Sub [P] σ σ' → LamT σ' P (q0 ++ "<lambda>") → σ' f = some o → σ' c = some (.code (q0 ++ "<lambda>")) → LamOk n o cl c (q0 ++ "<lambda>") P' → Q (.ref f) σ') : pLamP n P q0 names pos P' ℓ σ Q E := by
  obtain ⟨ps, h1, h2⟩ := hT
  refine ⟨ps, cl, h1, hcl, ?_⟩
  cases ha : among pos ps with
  | some c' =>
    intro f o hf L
    obtain ⟨p, hp, rfl⟩ := among_mem ha
    have x : Ext σ (σ.put f o) := Ext.refl.put hf
    exact h f _ o _ x.sub (LamT.ext ⟨ps, h1, h2⟩ x) St.put_same (x _ _ (h2 p hp)) L
  | none =>
    intro f c' o hf hc hn L
    have hP : P ≠ f := fun q => by rw [q, hf] at h1; cases h1
    have hP' : P ≠ c' := fun q => by rw [q, hc] at h1; cases h1
    refine h f c' o _ ?_ ⟨_, by rw [put_eq, if_neg hP, put_eq, if_neg hP', St.put_same], fun p hp => ?_⟩ St.put_same (by rw [put_eq, if_neg hn, St.put_same]) L
    · exact ((Ext.refl.sub.put (.inr (.head _))).put (.inl hc)).put (.inl hf)
    · rcases List.mem_append.mp hp with hp | hp
      · have := h2 p hp
        rw [put_eq, if_neg (fun q => by rw [q, hf] at this; cases this), put_eq, if_neg (fun q => by rw [q, hc] at this; cases this), put_eq, if_neg (fun q => by rw [q, h1] at this; cases this)]
        exact this
      · cases List.mem_singleton.mp hp
        rw [put_eq, if_neg hn, St.put_same]
inductive KpO (a : Addr) : AObj → Prop
  | lst (ns : List Int) : KpO a (.list (ns.map .int))
  | cell (v) : KpO a (.cell v)
  | tab {ps} : a ≠ 305 → KpO a (.tab ps)
  | fix {o xs} : KpO a (.fix o xs)
noncomputable def Frm (σ σ' : St) : Prop := ∀ a o, σ a = some o → KpO a o → σ' a = some o
theorem Ext.frm {σ σ'} (x : Ext σ σ') : Frm σ σ' := fun a o e _ => x a o e
theorem Frm.trans {σ σ' σ''} (x : Frm σ σ') (y : Frm σ' σ'') : Frm σ σ'' := fun a o e k => y a o (x a o e k) k
theorem Sub.frm {xs σ σ'} (x : Sub xs σ σ') (h : ∀ a ∈ xs, ∀ o, σ a = some o → ¬ KpO a o) : Frm σ σ' := fun a o e k => x a o e fun z => h a z o e k
noncomputable abbrev q310 : Str := (Fq_310 ++ ".<locals>.") ++ "<lambda>"
theorem cel2 {cl : List (Str × Addr)} {x y : Str} (h : cl.map (·.1) = [x, y]) : ∃ a b, cl = [(x, a), (y, b)] := by
  obtain ⟨a, cl', rfl, h2⟩ := cel_cons h
  obtain ⟨b, rfl⟩ := cel1 h2
  exact ⟨a, b, rfl⟩
theorem cel4 {cl : List (Str × Addr)} {x y z u : Str} (h : cl.map (·.1) = [x, y, z, u]) : ∃ a b c d, cl = [(x, a), (y, b), (z, c), (u, d)] := by
  obtain ⟨a, cl', rfl, h2⟩ := cel_cons h
  obtain ⟨b, cl', rfl, h3⟩ := cel_cons h2
  obtain ⟨c, d, rfl⟩ := cel2 h3
  exact ⟨a, b, c, d, rfl⟩
theorem pair_eq {σ : St} {a b : Addr} {d : D} {n : Int} {p : PyData} {N : Bool → Prop} (ha : σ a = some (.list [d, .int n])) (hb : σ b = some (.list [d, .int n])) (hd : Tl σ d p) (hl : Lay 19 p) (h : N true) : opCmp .Eq (.ref a) (.ref b) σ N := by
  rw [oc_eqR]
  have L : Lay 20 (.list [p, .int n]) := .list (Lay.cons hl (Lay.cons .int Lay.nil))
  refine ⟨_, _, .list ha (.cons hd (.cons (.int _) .nil)), .list hb (.cons hd (.cons (.int _) .nil)), L, L, ?_⟩
  rw [eqv_of_eq L rfl]; exact h
theorem ddel_dput {T : Tab} {k : Ky} {y : Ent} (h : (T.lookup k).isSome = true) : ddel k (dput k y T) = ddel k T := by
  unfold dput
  rw [if_pos h]
  unfold ddel
  clear h
  induction T with
  | nil => rfl
  | cons x T ih =>
    obtain ⟨a, b⟩ := x
    rw [List.map_cons, List.filter_cons, List.filter_cons]
    by_cases q : a = k
    · subst q; simpa using ih
    · simpa [q] using ih
theorem told_m : List.lookup (56 : Addr) told = some (Str.ofString "missing") := rfl
theorem told_u : List.lookup (68 : Addr) told = some (Str.ofString "misused") := rfl
theorem told_c : List.lookup (44 : Addr) told = some (Str.ofString "corrupt") := rfl
section
variable {ℓ : Lc} {σ : St} {Q : D → St → Prop} {Qb : Bool → St → Prop} {E : Addr → St → Prop} {F : FP} {Ps : EvsP} {t td e ch T ct ck w es} {k : Ky}
theorem m4 {x : Str} (S : TabS σ t td e ch T) (hx : List.lookup x [(Str.ofString "entries", D.ref e), (Str.ofString "is_changed", D.bool ch)] = none) (l1 : List.lookup (Str.ofString "table") ℓ.cel = some ct) (l3 : List.lookup (Str.ofString "key") ℓ.cel = some ck) (k1 : σ ct = some (.cell (some (.ref t)))) (k3 : σ ck = some (.cell (some (kyD k))))
    (h : Ps ℓ σ (fun ds σ2 => F (.ref t :: .tup (k.sum.map .int) :: .int k.l :: .int k.p :: .int k.c :: ds) σ2 Q E) E) : pMeth 256 x F (pCel (Str.ofString "table")) (pCons (pItem (pCel (Str.ofString "key")) (pInt 0)) (pCons (pItem (pCel (Str.ofString "key")) (pInt 1)) (pCons (pItem (pCel (Str.ofString "key")) (pInt 2)) (pCons (pItem (pCel (Str.ofString "key")) (pInt 3)) Ps)))) ℓ σ Q E :=
  e_meth (e_cel l1 k1 ⟨_, _, S.i, S.a, hx, e_cons (e_item (e_cel l3 k3 (e_int (item_ok 0 rfl (by decide) (e_cons (e_item (e_cel l3 k3 (e_int (item_ok 1 rfl (by decide) (e_cons (e_item (e_cel l3 k3 (e_int (item_ok 2 rfl (by decide) (e_cons (e_item (e_cel l3 k3 (e_int (item_ok 3 rfl (by decide) h)))))))))))))))))))⟩)
theorem inKWs {T : Tab} {v : Ent} {σ0 : St} (l3 : List.lookup (Str.ofString "key") ℓ.cel = some ck) (h1 : ℓ.loc (Str.ofString "world") = some (.ref w)) (k3 : σ ck = some (.cell (some (kyD k)))) (W : σ w = some (.dict es)) (W2 : WR σ0 T es) (hT : T.lookup k = some v) (h : Qb true σ) : bCmp .In (pCel (Str.ofString "key")) (pLoc (Str.ofString "world")) ℓ σ Qb E :=
  e_bcmp (e_cel l3 k3 (e_loc h1 (in_ok W (by rw [W2.isSome, hT]; exact h))))
theorem inKWn {T : Tab} {σ0 : St} (l3 : List.lookup (Str.ofString "key") ℓ.cel = some ck) (h1 : ℓ.loc (Str.ofString "world") = some (.ref w)) (k3 : σ ck = some (.cell (some (kyD k)))) (W : σ w = some (.dict es)) (W2 : WR σ0 T es) (hT : T.lookup k = none) (h : Qb false σ) : bCmp .In (pCel (Str.ofString "key")) (pLoc (Str.ofString "world")) ℓ σ Qb E :=
  e_bcmp (e_cel l3 k3 (e_loc h1 (in_ok W (by rw [W2.isSome, hT]; exact h))))
theorem itW {d} (l3 : List.lookup (Str.ofString "key") ℓ.cel = some ck) (h1 : ℓ.loc (Str.ofString "world") = some (.ref w)) (k3 : σ ck = some (.cell (some (kyD k)))) (W : σ w = some (.dict es)) (hl : es.lookup k = some d) (h : Q d σ) : pItem (pLoc (Str.ofString "world")) (pCel (Str.ofString "key")) ℓ σ Q E :=
  e_item (e_loc h1 (e_cel l3 k3 (key_ok W hl h)))
theorem enW {a d} {v : Ent} {i : Int} (l3 : List.lookup (Str.ofString "key") ℓ.cel = some ck) (h1 : ℓ.loc (Str.ofString "world") = some (.ref w)) (k3 : σ ck = some (.cell (some (kyD k)))) (W : σ w = some (.dict es)) (hl : es.lookup k = some (.ref a)) (ha : σ a = some (entL v)) (hd : [psD v.ps, .int v.b, .int v.n][i.toNat]? = some d) (hn : 0 ≤ i ∧ i < 2 ^ 63) (h : Q d σ) : pItem (pItem (pLoc (Str.ofString "world")) (pCel (Str.ofString "key"))) (pInt i) ℓ σ Q E :=
  e_item (itW l3 h1 k3 W hl ⟨_, d, ha, hn, hd, h⟩)
theorem C_217s {x : Ent} (S : TabS σ t td e ch T) (hT : T.lookup k = some x) (h : Q (.tup [psD x.ps, .int x.b]) σ) : P_217 [.ref t, .tup (k.sum.map .int), .int k.l, .int k.p, .int k.c] σ Q E := C_217 S (by rw [hT]; exact h)
theorem C_217n (S : TabS σ t td e ch T) (hT : T.lookup k = none) (h : Q .none σ) : P_217 [.ref t, .tup (k.sum.map .int), .int k.l, .int k.p, .int k.c] σ Q E := C_217 S (by rw [hT]; exact h)
theorem C_224s {x : Ent} (S : TabS σ t td e ch T) (hT : T.lookup k = some x) (h : Q (.int x.n) σ) : P_224 [.ref t, .tup (k.sum.map .int), .int k.l, .int k.p, .int k.c] σ Q E := C_224 S (by rw [hT]; exact h)
theorem C_224n (S : TabS σ t td e ch T) (hT : T.lookup k = none) (h : Q (.int 0) σ) : P_224 [.ref t, .tup (k.sum.map .int), .int k.l, .int k.p, .int k.c] σ Q E := C_224 S (by rw [hT]; exact h)
end
theorem drop_lam {σ : St} {t td e ch T k ct cb ck cp} {ℓ : Lc} {pos : Pos} {R : D → St → Prop} {E : Addr → St → Prop} (S : TabS σ t td e ch T) (L : LamT σ 305 q310) (hc : ℓ.cel = [((Str.ofString "places"), cp), (Str.ofString "key", ck), (Str.ofString "birth", cb), (Str.ofString "table", ct)])
    (k1 : σ ct = some (.cell (some (.ref t)))) (k3 : σ ck = some (.cell (some (kyD k)))) (hn : T.length ≤ 1000)
    (hN : T.lookup k = none → ∀ σ', Sub [305] σ σ' → LamT σ' 305 q310 → R (.str "missing") σ')
    (hS : ∀ v, T.lookup k = some v → ∀ σ', Sub [305, td, e] σ σ' → LamT σ' 305 q310 → TabS σ' t td e true (dropT k T) → R (.bool (v.n == 1)) σ') :
    pLamP 5 305 (Fq_310 ++ Str.ofString ".<locals>.") [(Str.ofString "key", NameKind.free), (Str.ofString "table", NameKind.free)] pos
      (pMeth 256 (Str.ofString "drop") P_236 (pCel (Str.ofString "table")) (pCons (pItem (pCel (Str.ofString "key")) (pInt 0)) (pCons (pItem (pCel (Str.ofString "key")) (pInt 1)) (pCons (pItem (pCel (Str.ofString "key")) (pInt 2)) (pCons (pItem (pCel (Str.ofString "key")) (pInt 3)) pNil)))))
      ℓ σ (fun d σ1 => P_303 [d] σ1 R E) E := by
  have n305 : ∀ o, σ 305 = some o → ∃ ps, o = .tab ps := fun o h => by obtain ⟨ps, h1, _⟩ := L; rw [h] at h1; cases h1; exact ⟨ps, rfl⟩
  refine lam_ok L (cl := [(Str.ofString "table", ct), (Str.ofString "key", ck)]) (by rw [hc]; rfl) fun f c o σ1 u1 L1 hf hcd LO => ?_
  refine C_303 (fLam_ok LO hf hcd ?_)
  have k1 := u1 _ _ k1 (fun z => by have := k1; rw [List.mem_singleton.mp z] at this; obtain ⟨_, q⟩ := n305 _ this; cases q)
  have k3 := u1 _ _ k3 (fun z => by have := k3; rw [List.mem_singleton.mp z] at this; obtain ⟨_, q⟩ := n305 _ this; cases q)
  have S1 : TabS σ1 t td e ch T := S.sub u1 (fun z => by have := S.i; rw [List.mem_singleton.mp z] at this; obtain ⟨_, q⟩ := n305 _ this; cases q) (fun z => by have := S.a; rw [List.mem_singleton.mp z] at this; obtain ⟨_, q⟩ := n305 _ this; cases q) (fun z => by have := S.d; rw [List.mem_singleton.mp z] at this; obtain ⟨_, q⟩ := n305 _ this; cases q)
  have l1 : List.lookup (Str.ofString "table") [(Str.ofString "table", ct), (Str.ofString "key", ck)] = some ct := by simp
  have l3 : List.lookup (Str.ofString "key") [(Str.ofString "table", ct), (Str.ofString "key", ck)] = some ck := by simp [List.lookup_cons, str_beq]
  refine m4 S1 rfl l1 l3 k1 k3 (C_236 S1 hn (fun h => ?_) fun v hv σ2 u2 S2 => ?_)
  · rw [told_m]
    exact hN h σ1 u1 L1
  · refine hS v hv σ2 ?_ (L1.sub u2 ?_ ?_) S2
    · intro a o h hn
      simp only [List.mem_cons, List.not_mem_nil, or_false, not_or] at hn
      exact u2 a o (u1 a o h (by simpa using hn.1)) (by simp [hn.2.1, hn.2.2])
    · simp only [List.mem_cons, List.not_mem_nil, or_false, not_or]
      obtain ⟨ps, q, _⟩ := L1
      exact ⟨fun z => (by have := S1.a; rw [← z, q] at this; cases this), fun z => (by have := S1.d; rw [← z, q] at this; cases this)⟩
    · intro a ha
      simp only [List.mem_cons, List.not_mem_nil, or_false] at ha
      rcases ha with rfl | rfl
      · rw [S1.a]; simp
      · rw [S1.d]; simp
theorem ne_of {σ : St} {a b : Addr} {o o' : AObj} (h : σ a = some o) (h' : σ b = some o') (n : o ≠ o') : a ≠ b := fun q => n (Option.some.inj (by rw [← h, ← h', q]))
theorem kp_ent {a : Addr} {v : Ent} : ¬ KpO a (entL v) := fun h => by
  unfold entL at h
  generalize ho : AObj.list [psD v.ps, .int v.b, .int v.n] = o at h
  cases h with
  | lst ns =>
    cases ns with
    | nil => simp at ho
    | cons n ns => simp [psD] at ho
  | cell v => cases ho
  | tab h => cases ho
  | fix => cases ho
theorem kp_dict {a : Addr} {es} : ¬ KpO a (.dict es) := fun h => by cases h
theorem kp_attrs {a : Addr} {es} : ¬ KpO a (.attrs es) := fun h => by cases h
theorem kp_305 {ps} : ¬ KpO 305 (.tab ps) := fun h => by
  cases h with | tab h => exact h rfl
theorem after_tab {σ σ' : St} {t td e ch T w T'} (S : TabS σ t td e ch T) (W : WldS σ w T') (L : LamT σ 305 q310) (hwe : w ≠ e) (u : Sub [305, td, e] σ σ') : WldS σ' w T' ∧ Frm σ σ' := by
  obtain ⟨ps, hps, _⟩ := L
  refine ⟨W.sub u ?_ fun a ha l q => ?_, u.frm fun a ha o q => ?_⟩
  · obtain ⟨es, hw, _⟩ := W
    simp only [List.mem_cons, List.not_mem_nil, or_false, not_or]
    exact ⟨ne_of hw hps (by simp), ne_of hw S.a (by simp), hwe⟩
  · simp only [List.mem_cons, List.not_mem_nil, or_false] at ha
    rcases ha with rfl | rfl | rfl
    · rw [hps] at q; cases q
    · rw [S.a] at q; cases q
    · rw [S.d] at q; cases q
  · simp only [List.mem_cons, List.not_mem_nil, or_false] at ha
    rcases ha with rfl | rfl | rfl
    · rw [hps] at q; cases q; exact kp_305
    · rw [S.a] at q; cases q; exact kp_attrs
    · rw [S.d] at q; cases q; exact kp_dict
noncomputable def R310s : { p : SP × SP × SP × SP × SP × SP // R_310.1 = sSeq p.1 (sSeq p.2.1 (sSeq p.2.2.1 (sSeq p.2.2.2.1 (sSeq p.2.2.2.2.1 p.2.2.2.2.2)))) } := by
  refine' ⟨(_, _, _, _, _, _), _⟩
  rotate_left 6
  · dsimp only [R_310]
    exact rfl
noncomputable def rest310 : SP := R310s.1.2.2.2.2.2
end Mine
end F_Ct12
local macro_rules
  | `(tactic| simp_wf) => `(tactic| (repeat (first
    | refine Mine.inKWs (by assumption) (by with_reducible first | assumption | exact Mine.loc_same | exact Mine.loc_ne (by decide) (by assumption) | exact Mine.loc_ne (by decide) Mine.loc_same | exact Mine.loc_ne (by decide) (Mine.loc_ne (by decide) (by assumption)) | exact Mine.loc_ne (by decide) (Mine.loc_ne (by decide) Mine.loc_same) | exact Mine.loc_ne (by decide) (Mine.loc_ne (by decide) (Mine.loc_ne (by decide) (by assumption))) | exact Mine.loc_ne (by decide) (Mine.loc_ne (by decide) (Mine.loc_ne (by decide) Mine.loc_same)) | exact Mine.loc_ne (by decide) (Mine.loc_ne (by decide) (Mine.loc_ne (by decide) (Mine.loc_ne (by decide) (by assumption)))) | exact Mine.loc_ne (by decide) (Mine.loc_ne (by decide) (Mine.loc_ne (by decide) (Mine.loc_ne (by decide) Mine.loc_same)))) (by assumption) (by assumption) (by assumption) (by assumption) ?_
    | refine Mine.inKWn (by assumption) (by with_reducible first | assumption | exact Mine.loc_same | exact Mine.loc_ne (by decide) (by assumption) | exact Mine.loc_ne (by decide) Mine.loc_same | exact Mine.loc_ne (by decide) (Mine.loc_ne (by decide) (by assumption)) | exact Mine.loc_ne (by decide) (Mine.loc_ne (by decide) Mine.loc_same) | exact Mine.loc_ne (by decide) (Mine.loc_ne (by decide) (Mine.loc_ne (by decide) (by assumption))) | exact Mine.loc_ne (by decide) (Mine.loc_ne (by decide) (Mine.loc_ne (by decide) Mine.loc_same)) | exact Mine.loc_ne (by decide) (Mine.loc_ne (by decide) (Mine.loc_ne (by decide) (Mine.loc_ne (by decide) (by assumption)))) | exact Mine.loc_ne (by decide) (Mine.loc_ne (by decide) (Mine.loc_ne (by decide) (Mine.loc_ne (by decide) Mine.loc_same)))) (by assumption) (by assumption) (by assumption) (by assumption) ?_
    | refine Mine.ninKWs (by assumption) (by with_reducible first | assumption | exact Mine.loc_same | exact Mine.loc_ne (by decide) (by assumption) | exact Mine.loc_ne (by decide) Mine.loc_same | exact Mine.loc_ne (by decide) (Mine.loc_ne (by decide) (by assumption)) | exact Mine.loc_ne (by decide) (Mine.loc_ne (by decide) Mine.loc_same) | exact Mine.loc_ne (by decide) (Mine.loc_ne (by decide) (Mine.loc_ne (by decide) (by assumption))) | exact Mine.loc_ne (by decide) (Mine.loc_ne (by decide) (Mine.loc_ne (by decide) Mine.loc_same)) | exact Mine.loc_ne (by decide) (Mine.loc_ne (by decide) (Mine.loc_ne (by decide) (Mine.loc_ne (by decide) (by assumption)))) | exact Mine.loc_ne (by decide) (Mine.loc_ne (by decide) (Mine.loc_ne (by decide) (Mine.loc_ne (by decide) Mine.loc_same)))) (by assumption) (by assumption) (by assumption) (by assumption) ?_
    | refine Mine.ninKWn (by assumption) (by with_reducible first | assumption | exact Mine.loc_same | exact Mine.loc_ne (by decide) (by assumption) | exact Mine.loc_ne (by decide) Mine.loc_same | exact Mine.loc_ne (by decide) (Mine.loc_ne (by decide) (by assumption)) | exact Mine.loc_ne (by decide) (Mine.loc_ne (by decide) Mine.loc_same) | exact Mine.loc_ne (by decide) (Mine.loc_ne (by decide) (Mine.loc_ne (by decide) (by assumption))) | exact Mine.loc_ne (by decide) (Mine.loc_ne (by decide) (Mine.loc_ne (by decide) Mine.loc_same)) | exact Mine.loc_ne (by decide) (Mine.loc_ne (by decide) (Mine.loc_ne (by decide) (Mine.loc_ne (by decide) (by assumption)))) | exact Mine.loc_ne (by decide) (Mine.loc_ne (by decide) (Mine.loc_ne (by decide) (Mine.loc_ne (by decide) Mine.loc_same)))) (by assumption) (by assumption) (by assumption) (by assumption) ?_
    | refine Mine.enW (by assumption) (by with_reducible first | assumption | exact Mine.loc_same | exact Mine.loc_ne (by decide) (by assumption) | exact Mine.loc_ne (by decide) Mine.loc_same | exact Mine.loc_ne (by decide) (Mine.loc_ne (by decide) (by assumption)) | exact Mine.loc_ne (by decide) (Mine.loc_ne (by decide) Mine.loc_same) | exact Mine.loc_ne (by decide) (Mine.loc_ne (by decide) (Mine.loc_ne (by decide) (by assumption))) | exact Mine.loc_ne (by decide) (Mine.loc_ne (by decide) (Mine.loc_ne (by decide) Mine.loc_same)) | exact Mine.loc_ne (by decide) (Mine.loc_ne (by decide) (Mine.loc_ne (by decide) (Mine.loc_ne (by decide) (by assumption)))) | exact Mine.loc_ne (by decide) (Mine.loc_ne (by decide) (Mine.loc_ne (by decide) (Mine.loc_ne (by decide) Mine.loc_same)))) (by assumption) (by assumption) (by assumption) (by assumption) rfl (by decide) ?_
    | refine Mine.itW (by assumption) (by with_reducible first | assumption | exact Mine.loc_same | exact Mine.loc_ne (by decide) (by assumption) | exact Mine.loc_ne (by decide) Mine.loc_same | exact Mine.loc_ne (by decide) (Mine.loc_ne (by decide) (by assumption)) | exact Mine.loc_ne (by decide) (Mine.loc_ne (by decide) Mine.loc_same) | exact Mine.loc_ne (by decide) (Mine.loc_ne (by decide) (Mine.loc_ne (by decide) (by assumption))) | exact Mine.loc_ne (by decide) (Mine.loc_ne (by decide) (Mine.loc_ne (by decide) Mine.loc_same)) | exact Mine.loc_ne (by decide) (Mine.loc_ne (by decide) (Mine.loc_ne (by decide) (Mine.loc_ne (by decide) (by assumption)))) | exact Mine.loc_ne (by decide) (Mine.loc_ne (by decide) (Mine.loc_ne (by decide) (Mine.loc_ne (by decide) Mine.loc_same)))) (by assumption) (by assumption) (by assumption) ?_
    | refine Mine.m4 (by assumption) rfl (by assumption) (by assumption) (by assumption) (by assumption) ?_
    | refine Mine.e_loc (by with_reducible first | assumption | exact Mine.loc_same | exact Mine.loc_ne (by decide) (by assumption) | exact Mine.loc_ne (by decide) Mine.loc_same | exact Mine.loc_ne (by decide) (Mine.loc_ne (by decide) (by assumption)) | exact Mine.loc_ne (by decide) (Mine.loc_ne (by decide) Mine.loc_same) | exact Mine.loc_ne (by decide) (Mine.loc_ne (by decide) (Mine.loc_ne (by decide) (by assumption))) | exact Mine.loc_ne (by decide) (Mine.loc_ne (by decide) (Mine.loc_ne (by decide) Mine.loc_same)) | exact Mine.loc_ne (by decide) (Mine.loc_ne (by decide) (Mine.loc_ne (by decide) (Mine.loc_ne (by decide) (by assumption)))) | exact Mine.loc_ne (by decide) (Mine.loc_ne (by decide) (Mine.loc_ne (by decide) (Mine.loc_ne (by decide) Mine.loc_same)))) ?_
    | refine Mine.e_cel (by assumption) (by assumption) ?_
    | refine Mine.e_setC (by assumption) (by assumption) ?_
    | with_reducible apply Mine.e_int
    | with_reducible apply Mine.e_str
    | with_reducible apply Mine.e_none
    | with_reducible apply Mine.e_bool
    | with_reducible apply Mine.neSS
    | with_reducible apply Mine.isSB
    | with_reducible apply Mine.neBS
    | with_reducible apply Mine.eqSS
    | with_reducible apply Mine.isNN
    | with_reducible apply Mine.isSN
    | with_reducible apply Mine.obAdd
    | with_reducible apply Mine.obSub)))

section F_Ct12a
open PySem PySem.W PySem.Spec PySem.Calls PyProof.Rows
namespace Mine
theorem PlR.snoc {σ : St} {xs ps c} {p : Int × Int × Int} (h : PlR σ xs ps) (hc : σ c = some (.list [.int p.1, .int p.2.1, .int p.2.2])) : PlR σ (xs ++ [.ref c]) (ps ++ [p]) := by
  induction h with
  | nil => exact .cons hc .nil
  | cons a _ ih => exact .cons a ih
theorem add_lam {σ : St} {t td e ch T k ct cb ck cp ps b} {ℓ : Lc} {pos : Pos} {R : D → St → Prop} {E : Addr → St → Prop} (S : TabS σ t td e ch T) (L : LamT σ 305 q310) (hc : ℓ.cel = [((Str.ofString "places"), cp), (Str.ofString "key", ck), (Str.ofString "birth", cb), (Str.ofString "table", ct)])
    (k1 : σ ct = some (.cell (some (.ref t)))) (k2 : σ cb = some (.cell (some (.int b)))) (k3 : σ ck = some (.cell (some (kyD k)))) (k4 : σ cp = some (.cell (some (psD ps)))) (hn : T.length ≤ 1000) (hl : ps.length ≤ 1000)
    (hN : ∀ v, T.lookup k = some v → ¬ (v.ps = ps ∧ v.b = b) → ∀ σ', Sub [305] σ σ' → LamT σ' 305 q310 → R (.str "misused") σ')
    (hS : (∀ v, T.lookup k = some v → v.ps = ps ∧ v.b = b) → ∀ σ', Sub [305, td, e] σ σ' → LamT σ' 305 q310 → TabS σ' t td e true (addT k ps b T) → R .none σ') :
    pLamP 5 305 (Fq_310 ++ Str.ofString ".<locals>.") [(Str.ofString "birth", NameKind.free), (Str.ofString "key", NameKind.free), (Str.ofString "places", NameKind.free), (Str.ofString "table", NameKind.free)] pos
      (pMeth 256 (Str.ofString "add") P_229 (pCel (Str.ofString "table")) (pCons (pItem (pCel (Str.ofString "key")) (pInt 0)) (pCons (pItem (pCel (Str.ofString "key")) (pInt 1)) (pCons (pItem (pCel (Str.ofString "key")) (pInt 2)) (pCons (pItem (pCel (Str.ofString "key")) (pInt 3))
        (pCons (pComp (Tgt.nm NK.loc (Str.ofString "place")) [(Str.ofString ".0", NameKind.local), (Str.ofString "place", NameKind.local), (Str.ofString "list", NameKind.globalImplicit)] (pCel (Str.ofString "places")) (pCall fList (pCons (pLoc (Str.ofString "place")) pNil)))
          (pCons (pCel (Str.ofString "birth")) pNil)))))))
      ℓ σ (fun d σ1 => P_303 [d] σ1 R E) E := by
  have n305 : ∀ o, σ 305 = some o → ∃ ps, o = .tab ps := fun o h => by obtain ⟨ps, h1, _⟩ := L; rw [h] at h1; cases h1; exact ⟨ps, rfl⟩
  have nc : ∀ {c v}, σ c = some (.cell v) → c ∉ [(305 : Addr)] := fun {c v} h z => by rw [List.mem_singleton.mp z] at h; obtain ⟨_, q⟩ := n305 _ h; cases q
  refine lam_ok L (cl := [(Str.ofString "table", ct), (Str.ofString "places", cp), (Str.ofString "key", ck), (Str.ofString "birth", cb)]) (by rw [hc]; rfl) fun f c o σ1 u1 L1 hf hcd LO => ?_
  refine C_303 (fLam_ok LO hf hcd ?_)
  have S1 : TabS σ1 t td e ch T := S.sub u1 (fun z => by have := S.i; rw [List.mem_singleton.mp z] at this; obtain ⟨_, q⟩ := n305 _ this; cases q) (fun z => by have := S.a; rw [List.mem_singleton.mp z] at this; obtain ⟨_, q⟩ := n305 _ this; cases q) (fun z => by have := S.d; rw [List.mem_singleton.mp z] at this; obtain ⟨_, q⟩ := n305 _ this; cases q)
  have k1 := u1 _ _ k1 (nc k1)
  have k2 := u1 _ _ k2 (nc k2)
  have k3 := u1 _ _ k3 (nc k3)
  have k4 := u1 _ _ k4 (nc k4)
  generalize hcl : [(Str.ofString "table", ct), (Str.ofString "places", cp), (Str.ofString "key", ck), (Str.ofString "birth", cb)] = cl
  have l1 : List.lookup (Str.ofString "table") cl = some ct := by subst hcl; simp
  have l2 : List.lookup (Str.ofString "birth") cl = some cb := by subst hcl; simp [List.lookup_cons, str_beq]
  have l3 : List.lookup (Str.ofString "key") cl = some ck := by subst hcl; simp [List.lookup_cons, str_beq]
  have l4 : List.lookup (Str.ofString "places") cl = some cp := by subst hcl; simp [List.lookup_cons, str_beq]
  refine m4 S1 rfl l1 l3 k1 k3 ⟨[], rfl, ?_⟩
  simp_wf
  refine ⟨notItems_tup, _, none, .tup (by simp; lia), ?_⟩
  simp only [frz_n, thaw_n]
  refine compP_ind (fun xs ys ℓ2 σ2 => Ext σ1 σ2 ∧ ∃ don rest, don ++ rest = ps ∧ xs = rest.map plD ∧ PlR σ2 ys don) ?_ ?_ _ _ _ _ ⟨Ext.refl, [], ps, rfl, rfl, .nil⟩
  · rintro z zs ys ℓ2 σ2 K2 ⟨x2, don, rest, q2, q3, q4⟩ kk
    cases rest with
    | nil => cases q3
    | cons p rest =>
      rw [List.map_cons, List.cons.injEq] at q3
      obtain ⟨rfl, rfl⟩ := q3
      simp_wf
      refine ⟨ble rfl, fun c1 hc1 => ?_⟩
      have x3 : Ext σ2 (σ2.put c1 (.list [.int p.1, .int p.2.1, .int p.2.2])) := Ext.refl.put hc1
      exact kk _ _ _ ⟨x2.trans x3, don ++ [p], rest, by rw [← q2]; simp, rfl, (q4.ext fun a o h _ _ => x3 a o h).snoc St.put_same⟩
  · rintro ys ℓ2 σ2 ⟨x2, don, rest, q2, q3, q4⟩
    cases rest with
    | cons p rest => cases q3
    | nil =>
      rw [List.append_nil] at q2
      subst q2
      intro a ha
      have x3 : Ext σ2 (σ2.put a (.list ys)) := Ext.refl.put ha
      have ha' : (σ2.put a (.list ys)) a = some (.list ys) := St.put_same
      have q5 := q4.ext fun a o h _ _ => x3 a o h
      generalize σ2.put a (.list ys) = σ3 at x3 ha' q5
      have x4 := x2.trans x3
      have k2 := x4 _ _ k2
      simp_wf
      have S3 := S1.ext x4
      have L3 := L1.ext x4
      have u3 : Sub [305] σ σ3 := fun a o h hn => x4 a o (u1 a o h hn)
      refine C_229 S3 hn ha' q5 (by rw [q5.length]; exact hl) (fun v hv hne σ5 x5 => ?_) (fun hok σ5 u5 S5 => ?_)
      · rw [told_u]
        exact hN v hv hne σ5 (fun a o h hn => x5 a o (u3 a o h hn)) (L3.ext x5)
      · refine hS hok σ5 ?_ (L3.sub u5 ?_ ?_) S5
        · intro a o h hn
          simp only [List.mem_cons, List.not_mem_nil, or_false, not_or] at hn
          exact u5 a o (u3 a o h (by simpa using hn.1)) (by simp [hn.2.1, hn.2.2])
        · simp only [List.mem_cons, List.not_mem_nil, or_false, not_or]
          obtain ⟨ps, q, _⟩ := L3
          exact ⟨ne_of q S3.a (by simp), ne_of q S3.d (by simp)⟩
        · intro a ha
          simp only [List.mem_cons, List.not_mem_nil, or_false] at ha
          rcases ha with rfl | rfl
          · rw [S3.a]; simp
          · rw [S3.d]; simp
theorem tl_ent {σ : St} {r : Addr} {ps b} (h : σ r = some (.list [psD ps, .int b])) : Tl σ (.ref r) (.list [psP ps, .int b]) := .list h (.cons (psData _) (.cons (.int _) .nil))
theorem ne_entL {σ : St} {r r' : Addr} {ps qs : List (Int × Int × Int)} {b c : Int} {N : Bool → Prop} (h1 : σ r = some (.list [psD ps, .int b])) (h2 : σ r' = some (.list [psD qs, .int c])) (h : N (decide (¬ (ps = qs ∧ b = c)))) : opCmp .NotEq (.ref r) (.ref r') σ N := by
  rw [oc_neR]
  have L : ∀ (ps : List (Int × Int × Int)) (b : Int), Lay 20 (.list [psP ps, .int b]) := fun ps b => .list (Lay.cons (lay_ps ps) (Lay.cons .int Lay.nil))
  refine ⟨_, _, tl_ent h1, tl_ent h2, L _ _, L _ _, ?_⟩
  have e : (!PyData.eqv (.list [psP ps, .int b]) (.list [psP qs, .int c])) = decide (¬ (ps = qs ∧ b = c)) := by
    by_cases q : ps = qs ∧ b = c
    · rw [eqv_of_eq (L ps b) (by rw [q.1, q.2])]; simp [q]
    · rw [eqv_of_ne (L ps b) (L qs c) (fun z => q (by
        simp only [PyData.list.injEq, List.cons.injEq, PyData.int.injEq, and_true] at z
        exact ⟨psP_inj z.1, z.2⟩))]; simp [q]
  rw [e]; exact h
theorem store_end {M : St → Prop} {σ : St} {t td e ch w T m k ps b cp ck cb ct c es n'} {ℓ : Lc} {pos : Pos} {Q : D → St → Prop} {E : Addr → St → Prop} (S : TabS σ t td e ch T) (W1 : σ w = some (.dict es)) (W2 : WR σ T es) (g : GoodT m T) (hm : 0 ≤ m ∧ m ≤ 100) (L : LamT σ 305 q310) (hwe : w ≠ e)
    (hc : ℓ.cel = [((Str.ofString "places"), cp), (Str.ofString "key", ck), (Str.ofString "birth", cb), (Str.ofString "table", ct)])
    (k1 : σ ct = some (.cell (some (.ref t)))) (k2 : σ cb = some (.cell (some (.int b)))) (k3 : σ ck = some (.cell (some (kyD k)))) (k4 : σ cp = some (.cell (some (psD ps))))
    (hk : k ∈ keysS) (hps : ps ∈ plsS) (hb : 0 ≤ b ∧ b ≤ 7) (hcf : σ c = none) (hok : ∀ v, T.lookup k = some v → v.ps = ps ∧ v.b = b) (hdue : ℓ.loc (Str.ofString "due") = some .none) (hn' : n' = (match T.lookup k with | some x => x.n | none => 0) + 1)
    (hQ : ∀ σ' T' ch', TabS σ' t td e ch' T' → WldS σ' w T' → GoodT (m + 1) T' → LamT σ' 305 q310 → Frm σ σ' → ch' = true ∧ T' ≠ [] → Q (.bool true) σ')
    (hM : ∀ σ4,
    pLamP 5 305 (Fq_310 ++ Str.ofString ".<locals>.") [(Str.ofString "birth", NameKind.free), (Str.ofString "key", NameKind.free), (Str.ofString "places", NameKind.free), (Str.ofString "table", NameKind.free)] pos
      (pMeth 256 (Str.ofString "add") P_229 (pCel (Str.ofString "table")) (pCons (pItem (pCel (Str.ofString "key")) (pInt 0)) (pCons (pItem (pCel (Str.ofString "key")) (pInt 1)) (pCons (pItem (pCel (Str.ofString "key")) (pInt 2)) (pCons (pItem (pCel (Str.ofString "key")) (pInt 3))
        (pCons (pComp (Tgt.nm NK.loc (Str.ofString "place")) [(Str.ofString ".0", NameKind.local), (Str.ofString "place", NameKind.local), (Str.ofString "list", NameKind.globalImplicit)] (pCel (Str.ofString "places")) (pCall fList (pCons (pLoc (Str.ofString "place")) pNil)))
          (pCons (pCel (Str.ofString "birth")) pNil)))))))
      ℓ σ4 (fun d σ1 => P_303 [d] σ1 (fun a σ1 => pLoc (Str.ofString "due") ℓ σ1 (fun b σ2 => opCmp CmpOp.Eq a b σ2 fun r => Q (D.bool r) σ2) E) E) E → M σ4) :
    opSetItem (.ref w) (kyD k) (.ref c) (σ.put c (.list [psD ps, .int b, .int n'])) M := by
  have x1 : Ext σ (σ.put c (.list [psD ps, .int b, .int n'])) := Ext.refl.put hcf
  have c1 : (σ.put c (.list [psD ps, .int b, .int n'])) c = some (entL ⟨ps, b, n'⟩) := St.put_same
  generalize σ.put c (.list [psD ps, .int b, .int n']) = σ1 at x1 c1
  have S1 := S.ext x1
  have w1 := x1 _ _ W1
  have L1 := L.ext x1
  have k1 := x1 _ _ k1
  have k2 := x1 _ _ k2
  have k3 := x1 _ _ k3
  have k4 := x1 _ _ k4
  refine oset_key w1 (by rw [W2.len]; have := g.len; omega) ?_
  have hf : ∀ k', es.lookup k' ≠ some (.ref c) := fun k' q => by
    have hs := W2.isSome k'
    rw [q] at hs
    cases hT : T.lookup k' with
    | none => rw [hT] at hs; cases hs
    | some v =>
      obtain ⟨a, h1, h2⟩ := W2.at_ _ _ hT
      rw [q] at h1; cases h1
      rw [hcf] at h2; cases h2
  have W3 : WR σ1 (dput k ⟨ps, b, n'⟩ T) (dput k (.ref c) es) := (W2.mono fun a l q => x1 _ _ q).new c1 hf
  have u2 : Sub [w] σ1 (σ1.put w (.dict (dput k (.ref c) es))) := Ext.refl.sub.put (.inr (.head _))
  have w2 : WldS (σ1.put w (.dict (dput k (.ref c) es))) w (dput k ⟨ps, b, n'⟩ T) := ⟨_, St.put_same, W3.mono fun a l q => by rw [put_eq, if_neg (ne_of q w1 (by simp))]; exact q⟩
  have F2 : Frm σ1 (σ1.put w (.dict (dput k (.ref c) es))) := u2.frm fun b hb o q => by rw [List.mem_singleton.mp hb, w1] at q; cases q; exact kp_dict
  obtain ⟨ps', hps', _⟩ := id L1
  generalize σ1.put w (.dict (dput k (.ref c) es)) = σ2 at u2 w2 F2
  have S2 : TabS σ2 t td e ch T := S1.sub u2 (by simp only [List.mem_singleton]; exact ne_of S1.i w1 (by simp)) (by simp only [List.mem_singleton]; exact ne_of S1.a w1 (by simp)) (by simpa using hwe.symm)
  have L2 : LamT σ2 305 q310 := L1.sub u2 (by simp only [List.mem_singleton]; exact ne_of hps' w1 (by simp)) (fun b hb => by rw [List.mem_singleton.mp hb, w1]; simp)
  have k1 := u2 _ _ k1 (by simp only [List.mem_singleton]; exact ne_of k1 w1 (by simp))
  have k2 := u2 _ _ k2 (by simp only [List.mem_singleton]; exact ne_of k2 w1 (by simp))
  have k3 := u2 _ _ k3 (by simp only [List.mem_singleton]; exact ne_of k3 w1 (by simp))
  have k4 := u2 _ _ k4 (by simp only [List.mem_singleton]; exact ne_of k4 w1 (by simp))
  refine hM _ ?_
  refine add_lam S2 L2 hc k1 k2 k3 k4 (by have := g.len; omega) (by have := (pls_wf _ hps).1; omega) (fun v hv hne => absurd (hok v hv) hne) (fun _ σ3 u3 L3 S3 => ?_)
  have A3 := after_tab S2 w2 L2 hwe u3
  refine e_loc hdue (eqNN ?_)
  have hadd : dput k ⟨ps, b, n'⟩ T = addT k ps b T := by rw [hn']; rfl
  rw [hadd] at A3
  refine hQ σ3 _ true S3 A3.1 ?_ L3 (x1.frm.trans (F2.trans A3.2)) ⟨rfl, fun q => ?_⟩
  · rw [← hadd]
    refine (g.mono (by omega)).put hk hps hb ⟨?_, ?_⟩
    · show 1 ≤ n'
      rw [hn']
      cases hT : T.lookup k with
      | none => simp
      | some v => have := (g.at hT).2.2.1; simp; omega
    · show n' ≤ m + 1
      rw [hn']
      cases hT : T.lookup k with
      | none => simp; omega
      | some v => have := (g.at hT).2.2.2.1; simp; omega
  · have := dput_lookup (T := T) (k := k) (k' := k) (e := (⟨ps, b, n'⟩ : Ent))
    rw [hadd, q, if_pos rfl] at this
    cases this
theorem deed_rest {σ : St} {t td e ch w T m k ps b cp ck cb ct} {ℓ : Lc} {N : Lc → St → Prop} {Q : D → St → Prop} {E : Addr → St → Prop} (S : TabS σ t td e ch T) (W : WldS σ w T) (g : GoodT m T) (hm : 0 ≤ m ∧ m ≤ 100) (L : LamT σ 305 q310) (hwe : w ≠ e)
    (hc : ℓ.cel = [((Str.ofString "places"), cp), (Str.ofString "key", ck), (Str.ofString "birth", cb), (Str.ofString "table", ct)])
    (k1 : σ ct = some (.cell (some (.ref t)))) (k2 : σ cb = some (.cell (some (.int b)))) (k3 : σ ck = some (.cell (some (kyD k)))) (k4 : σ cp = some (.cell (some (psD ps)))) (h1 : ℓ.loc "world" = some (.ref w))
    (hk : k ∈ keysS) (hps : ps ∈ plsS) (hb : 0 ≤ b ∧ b ≤ 7)
    (hQ : ∀ σ' T' ch', TabS σ' t td e ch' T' → WldS σ' w T' → GoodT (m + 1) T' → LamT σ' 305 q310 → Frm σ σ' → ((∀ v, T.lookup k = some v → v.ps = ps ∧ v.b = b) → ch' = true ∧ T' ≠ []) → Q (.bool true) σ') : rest310 ℓ σ N Q E := by
  have l1 : List.lookup (Str.ofString "table") ℓ.cel = some ct := by rw [hc]; simp [List.lookup_cons, str_beq]
  have l2 : List.lookup (Str.ofString "birth") ℓ.cel = some cb := by rw [hc]; simp [List.lookup_cons, str_beq]
  have l3 : List.lookup (Str.ofString "key") ℓ.cel = some ck := by rw [hc]; simp [List.lookup_cons, str_beq]
  have l4 : List.lookup (Str.ofString "places") ℓ.cel = some cp := by rw [hc]; simp [List.lookup_cons, str_beq]
  obtain ⟨es, W1, W2⟩ := W
  dsimp only [rest310, R310s]
  refine hSeq fun M1 m1 => ?_
  cases hT : T.lookup k with
  | none =>
    simp_wf
    refine m1 _ _ (hSeq fun M2 m2 => ?_)
    simp_wf
    refine ⟨ble rfl, fun c hcf => ?_⟩
    have k3' : (σ.put c (.list [psD ps, .int b, .int 1])) ck = some (.cell (some (kyD k))) := by rw [put_eq, if_neg (Ext.ne k3 hcf).symm]; exact k3
    simp_wf
    exact store_end S W1 W2 g hm L hwe (by exact hc) k1 k2 k3 k4 hk hps hb hcf (fun v hv => by rw [hT] at hv; cases hv) loc_same (by rw [hT]; rfl) (fun σ' T' ch' a1 a2 a3 a4 a5 a6 => hQ σ' T' ch' a1 a2 a3 a4 a5 fun _ => a6) fun σ' h => by
      refine m2 _ _ ?_
      exact h
  | some v =>
    obtain ⟨a, ha1, ha2⟩ := W2.at_ _ _ hT
    simp_wf
    refine ⟨_, .inl ha2, by simp, fun c1 hc1 => ?_⟩
    have es2 : slc [psD v.ps, .int v.b, .int v.n] none (some 2) = [psD v.ps, .int v.b] := rfl
    rw [es2]
    have x4 : Ext σ (σ.put c1 (.list [psD v.ps, .int v.b])) := Ext.refl.put hc1
    have c4 : (σ.put c1 (.list [psD v.ps, .int v.b])) c1 = some (.list [psD v.ps, .int v.b]) := St.put_same
    generalize σ.put c1 (.list [psD v.ps, .int v.b]) = σ4 at x4 c4
    have k2 := x4 _ _ k2
    have k4 := x4 _ _ k4
    simp_wf
    refine ⟨ble rfl, fun c2 hc2 => ?_⟩
    have x5 : Ext σ4 (σ4.put c2 (.list [psD ps, .int b])) := Ext.refl.put hc2
    have c5 : (σ4.put c2 (.list [psD ps, .int b])) c2 = some (.list [psD ps, .int b]) := St.put_same
    have c4 := x5 _ _ c4
    generalize σ4.put c2 (.list [psD ps, .int b]) = σ5 at x5 c5 c4
    have x6 := x4.trans x5
    have S5 := S.ext x6
    have W5 := x6 _ _ W1
    have W6 := W2.mono fun a l q => x6 _ _ q
    have L5 := L.ext x6
    have k1 := x6 _ _ k1
    have k2 := x5 _ _ k2
    have k3 := x6 _ _ k3
    have k4 := x5 _ _ k4
    refine ne_entL c4 c5 ?_
    by_cases q : v.ps = ps ∧ v.b = b
    · have hd : decide (¬ (v.ps = ps ∧ v.b = b)) = false := by simp [q]
      rw [hd]
      have ha2 := x6 _ _ ha2
      simp_wf
      refine m1 _ _ (hSeq fun M2 m2 => ?_)
      simp_wf
      refine ⟨ble rfl, fun c hcf => ?_⟩
      have k3' : (σ5.put c (.list [psD ps, .int b, .int (v.n + 1)])) ck = some (.cell (some (kyD k))) := by rw [put_eq, if_neg (Ext.ne k3 hcf).symm]; exact k3
      simp_wf
      exact store_end S5 W5 W6 g hm L5 hwe (by exact hc) k1 k2 k3 k4 hk hps hb hcf (fun v' hv => by rw [hT] at hv; cases hv; exact q) loc_same (by rw [hT]) (fun σ' T' ch' a1 a2 a3 a4 a5 a6 => hQ σ' T' ch' a1 a2 a3 a4 (x6.frm.trans a5) fun _ => a6) fun σ' h => by
        refine m2 _ _ ?_
        exact h
    · have hd : decide (¬ (v.ps = ps ∧ v.b = b)) = true := decide_eq_true q
      rw [hd]
      simp_wf
      refine m1 _ _ (hSeq fun M2 m2 => ?_)
      simp_wf
      refine m2 _ _ ?_
      simp_wf
      refine add_lam S5 L5 (by exact hc) k1 k2 k3 k4 (by have := g.len; omega) (by have := (pls_wf _ hps).1; omega) (fun v' hv hne σ6 u6 L6 => ?_) (fun hok => absurd (hok v hT) q)
      simp_wf
      have A6 := after_tab S5 ⟨es, W5, W6⟩ L5 hwe (fun a o h hn => u6 a o h (by simp only [List.mem_cons, List.not_mem_nil, or_false, not_or] at hn ⊢; exact hn.1))
      obtain ⟨ps', hps', _⟩ := L5
      have S6 : TabS σ6 t td e ch T := S5.sub u6 (by simp only [List.mem_singleton]; exact ne_of S5.i hps' (by simp)) (by simp only [List.mem_singleton]; exact ne_of S5.a hps' (by simp)) (by simp only [List.mem_singleton]; exact ne_of S5.d hps' (by simp))
      exact hQ σ6 T ch S6 A6.1 (g.mono (by lia)) L6 (x6.frm.trans A6.2) (fun hok => absurd (hok v hT) q)
end Mine
end F_Ct12a
section F_Ct12b
open PySem PySem.W PySem.Spec PySem.Calls PyProof.Rows
namespace Mine
set_option maxHeartbeats 4000000 in
theorem C_310 {σ : St} {t td e ch w T m} {x y z : Int} {Q : D → St → Prop} {E : Addr → St → Prop} (S : TabS σ t td e ch T) (W : WldS σ w T) (g : GoodT m T) (hm : 0 ≤ m ∧ m ≤ 100) (L : LamT σ 305 q310) (hwe : w ≠ e)
    (hQ : ∀ σ' T' ch', TabS σ' t td e ch' T' → WldS σ' w T' → GoodT (m + 1) T' → LamT σ' 305 q310 → Frm σ σ' → (x % 4 = 0 → ch' = true ∧ T' ≠ []) → Q (.bool true) σ') : P_310 [.ref t, .ref w, .int x, .int y, .int z] σ Q E := by
  unfold P_310
  refine enterC rfl fun ℓ σ1 hl x1 hc1 hc2 hc3 => ?_
  obtain ⟨cp, ck, cb, ct, hc⟩ := cel4 (x := "places") (y := "key") (z := "birth") (u := "table") hc1
  have f1 := hc3 ("table", ct) (by rw [hc]; simp)
  have f2 := hc3 ("birth", cb) (by rw [hc]; simp)
  have f3 := hc3 ("key", ck) (by rw [hc]; simp)
  have f4 := hc3 ("places", cp) (by rw [hc]; simp)
  have k1 : σ1 ct = some (.cell (some (.ref t))) := f1.2
  have k2 : σ1 cb = some (.cell none) := f2.2
  have k3 : σ1 ck = some (.cell none) := f3.2
  have k4 : σ1 cp = some (.cell none) := f4.2
  have g1 : σ ct = none := f1.1
  have g2 : σ cb = none := f2.1
  have g3 : σ ck = none := f3.1
  have g4 : σ cp = none := f4.1
  rw [hc] at hc2
  simp only [List.map_cons, List.map_nil, List.nodup_cons, List.mem_cons, not_or, List.not_mem_nil, or_false] at hc2
  obtain ⟨⟨n43, n42, n41⟩, ⟨n32, n31⟩, n21, _⟩ := hc2
  clear f1 f2 f3 f4 hc3 hc1
  have l1 : List.lookup (Str.ofString "table") ℓ.cel = some ct := by rw [hc]; simp [List.lookup_cons, str_beq]
  have l2 : List.lookup (Str.ofString "birth") ℓ.cel = some cb := by rw [hc]; simp [List.lookup_cons, str_beq]
  have l3 : List.lookup (Str.ofString "key") ℓ.cel = some ck := by rw [hc]; simp [List.lookup_cons, str_beq]
  have l4 : List.lookup (Str.ofString "places") ℓ.cel = some cp := by rw [hc]; simp [List.lookup_cons, str_beq]
  have h1 := hl "world" _ rfl
  have h2 := hl "x" _ rfl
  have h3 := hl "y" _ rfl
  have h4 := hl "z" _ rfl
  clear hl
  dsimp only [R_310]
  simp_wf
  refine C_279 fun k hk σ2 x2 => ?_
  simp_wf
  refine ⟨by decide, ?_⟩
  rw [Int.fmod_eq_emod_of_nonneg _ (by decide)]
  simp_wf
  refine ⟨ble rfl, _, rfl, rfl, ?_⟩
  have k3 := x2 _ _ k3
  simp_wf
  have y1 : Ext σ (σ2.put ck (.cell (some (kyD k)))) := (x1.trans x2).put g3
  have k1 : (σ2.put ck (.cell (some (kyD k)))) ct = some (.cell (some (.ref t))) := by rw [put_eq, if_neg (Ne.symm n31)]; exact x2 _ _ k1
  have k2 : (σ2.put ck (.cell (some (kyD k)))) cb = some (.cell none) := by rw [put_eq, if_neg (Ne.symm n32)]; exact x2 _ _ k2
  have k4 : (σ2.put ck (.cell (some (kyD k)))) cp = some (.cell none) := by rw [put_eq, if_neg n43]; exact x2 _ _ k4
  have k3 : (σ2.put ck (.cell (some (kyD k)))) ck = some (.cell (some (kyD k))) := St.put_same
  generalize σ2.put ck (.cell (some (kyD k))) = σ3 at y1 k1 k2 k3 k4
  clear x2 x1
  have S3 := S.ext y1
  have W3 := W.ext y1
  have L3 := L.ext y1
  have h4' : x % 4 = 0 ∨ x % 4 = 1 ∨ x % 4 = 2 ∨ x % 4 = 3 := by lia
  obtain ⟨es, W1, W2⟩ := W3
  by_cases hx3 : x % 4 = 3
  · refine eqT hx3 ?_
    cases hT : T.lookup k with
    | some v =>
      obtain ⟨a, ha1, ha2⟩ := W2.at_ _ _ hT
      simp_wf
      refine ⟨_, .inl ha2, by simp, fun c hc => ?_⟩
      refine ⟨_, St.put_same, by simp [slc]; omega, ?_⟩
      have x4 : Ext σ3 (σ3.put c (.list (slc [psD v.ps, .int v.b, .int v.n] none (some 2)))) := Ext.refl.put hc
      have es2 : slc [psD v.ps, .int v.b, .int v.n] none (some 2) = [psD v.ps, .int v.b] := rfl
      rw [es2] at x4 ⊢
      generalize σ3.put c (.list [psD v.ps, .int v.b]) = σ4 at x4
      have k1 := x4 _ _ k1
      have k3 := x4 _ _ k3
      have S4 := S3.ext x4
      simp_wf
      refine C_217s S4 hT ?_
      simp_wf
      refine C_224s S4 hT ?_
      simp_wf
      refine ⟨ble rfl, fun c1 hc1 => ?_⟩
      have x5 : Ext σ4 (σ4.put c1 (.list [.tup [psD v.ps, .int v.b], .int v.n])) := Ext.refl.put hc1
      have e5 : (σ4.put c1 (.list [.tup [psD v.ps, .int v.b], .int v.n])) c1 = some (.list [.tup [psD v.ps, .int v.b], .int v.n]) := St.put_same
      generalize σ4.put c1 (.list [.tup [psD v.ps, .int v.b], .int v.n]) = σ5 at x5 e5
      have k3 := x5 _ _ k3
      have W5 := (x4.trans x5) _ _ W1
      have a5 := (x4.trans x5) _ _ ha2
      simp_wf
      refine ⟨ble rfl, fun c2 hc2 => ?_⟩
      have x6 : Ext σ5 (σ5.put c2 (.list [.tup [psD v.ps, .int v.b], .int v.n])) := Ext.refl.put hc2
      have y6 := y1.trans (x4.trans (x5.trans x6))
      refine pair_eq (x6 _ _ e5) St.put_same (.tup (.cons (psData _) (.cons (.int _) .nil))) (.tup (Lay.cons (lay_ps _) (Lay.cons .int Lay.nil))) ?_
      exact hQ _ T ch (S.ext y6) (W.ext y6) (g.mono (by omega)) (L.ext y6) y6.frm (fun q => by omega)
    | none => 
      simp_wf
      refine C_217n S3 hT ?_
      simp_wf
      refine C_224n S3 hT ?_
      simp_wf
      refine ⟨ble rfl, fun c1 hc1 => ?_⟩
      have x5 : Ext σ3 (σ3.put c1 (.list [.none, .int 0])) := Ext.refl.put hc1
      have e5 : (σ3.put c1 (.list [.none, .int 0])) c1 = some (.list [.none, .int 0]) := St.put_same
      generalize σ3.put c1 (.list [.none, .int 0]) = σ5 at x5 e5
      have k3 := x5 _ _ k3
      have W5 := x5 _ _ W1
      simp_wf
      refine ⟨ble rfl, fun c2 hc2 => ?_⟩
      have x6 : Ext σ5 (σ5.put c2 (.list [.none, .int 0])) := Ext.refl.put hc2
      have y6 := y1.trans (x5.trans x6)
      refine pair_eq (x6 _ _ e5) St.put_same .none .none ?_
      exact hQ _ T ch (S.ext y6) (W.ext y6) (g.mono (by omega)) (L.ext y6) y6.frm (fun q => by omega)
  · refine eqF hx3 ?_
    simp_wf
    by_cases hx2 : x % 4 = 2
    · refine eqT hx2 ?_
      cases hT : T.lookup k with
      | none =>
        simp_wf
        refine drop_lam S3 L3 (by exact hc) k1 k3 (by have := g.len; omega) (fun _ σ4 u4 L4 => ?_) (fun v hv => by rw [hT] at hv; cases hv)
        simp_wf
        have A4 := after_tab S3 ⟨es, W1, W2⟩ L3 hwe (fun a o h hn => u4 a o h (by simp only [List.mem_cons, List.not_mem_nil, or_false, not_or] at hn ⊢; exact hn.1))
        obtain ⟨ps, hps, _⟩ := L3
        have S4 : TabS σ4 t td e ch T := S3.sub u4 (by simp only [List.mem_singleton]; exact ne_of S3.i hps (by simp)) (by simp only [List.mem_singleton]; exact ne_of S3.a hps (by simp)) (by simp only [List.mem_singleton]; exact ne_of S3.d hps (by simp))
        exact hQ σ4 T ch S4 A4.1 (g.mono (by omega)) L4 (y1.frm.trans A4.2) (fun q => by omega)
      | some v =>
        obtain ⟨a, ha1, ha2⟩ := W2.at_ _ _ hT
        simp_wf
        refine ⟨_, ha2, by simp, ?_⟩
        have u4 : Sub [a] σ3 (σ3.put a (entL ⟨v.ps, v.b, v.n - 1⟩)) := Ext.refl.sub.put (.inr (.head _))
        have W4 : WR (σ3.put a (entL ⟨v.ps, v.b, v.n - 1⟩)) (dput k ⟨v.ps, v.b, v.n - 1⟩ T) es := W2.upd hT ha1
        have es4 : σ3.put a (.list ([psD v.ps, .int v.b, .int v.n].set (2 : Int).toNat (.int (v.n - 1)))) = σ3.put a (entL ⟨v.ps, v.b, v.n - 1⟩) := rfl
        rw [es4]
        have F4 : Frm σ3 (σ3.put a (entL ⟨v.ps, v.b, v.n - 1⟩)) := u4.frm fun b hb o q => by rw [List.mem_singleton.mp hb, ha2] at q; cases q; exact kp_ent
        obtain ⟨ps, hps, _⟩ := id L3
        generalize σ3.put a (entL ⟨v.ps, v.b, v.n - 1⟩) = σ4 at u4 W4 F4
        have nt : a ≠ t := ne_of ha2 S3.i (by simp [entL])
        have ntd : a ≠ td := ne_of ha2 S3.a (by simp [entL])
        have ne' : a ≠ e := ne_of ha2 S3.d (by simp [entL])
        have S4 : TabS σ4 t td e ch T := S3.sub u4 (by simpa using nt.symm) (by simpa using ntd.symm) (by simpa using ne'.symm)
        have L4 : LamT σ4 305 q310 := L3.sub u4 (by simp only [List.mem_singleton]; exact ne_of hps ha2 (by simp [entL])) (fun b hb => by rw [List.mem_singleton.mp hb, ha2]; simp [entL])
        have k1 := u4 _ _ k1 (by simp only [List.mem_singleton]; exact ne_of k1 ha2 (by simp [entL]))
        have k3 := u4 _ _ k3 (by simp only [List.mem_singleton]; exact ne_of k3 ha2 (by simp [entL]))
        have w4 := u4 _ _ W1 (by simp only [List.mem_singleton]; exact ne_of W1 ha2 (by simp [entL]))
        clear u4 es4
        simp_wf
        have gv := g.at hT
        have gd : GoodT (m + 1) (dropT k T) := by
          unfold dropT
          rw [hT]
          dsimp only
          split
          · exact (g.mono (by omega)).put gv.2.2.2.2 gv.1 gv.2.1 ⟨by show 1 ≤ v.n - 1; omega, by show v.n - 1 ≤ m + 1; have := gv.2.2.2.1; omega⟩
          · exact (g.mono (by omega)).del
        by_cases hv1 : v.n = 1
        · have hd : dropT k T = ddel k T := by unfold dropT; rw [hT]; dsimp only; rw [if_neg (by omega)]
          refine isBB (ifT (by rw [hv1]; rfl) ?_)
          simp_wf
          refine ⟨⟨_, w4⟩, ?_⟩
          simp_wf
          refine ⟨es, k, .ref a, w4, rfl, ha1, by rw [W2.len]; have := g.len; omega, ?_⟩
          have u5 : Sub [w] σ4 (σ4.put w (.dict (ddel k es))) := Ext.refl.sub.put (.inr (.head _))
          have w5 : WldS (σ4.put w (.dict (ddel k es))) w (dropT k T) := by
            refine ⟨_, St.put_same, ?_⟩
            rw [hd, ← ddel_dput (y := ⟨v.ps, v.b, v.n - 1⟩) (by rw [hT]; rfl)]
            refine W4.del.mono fun b l q => ?_
            rw [put_eq, if_neg (ne_of q w4 (by simp))]; exact q
          have F5 : Frm σ4 (σ4.put w (.dict (ddel k es))) := u5.frm fun b hb o q => by rw [List.mem_singleton.mp hb, w4] at q; cases q; exact kp_dict
          obtain ⟨ps', hps', _⟩ := id L4
          generalize σ4.put w (.dict (ddel k es)) = σ5 at u5 w5 F5
          have S5 : TabS σ5 t td e ch T := S4.sub u5 (by simp only [List.mem_singleton]; exact ne_of S4.i w4 (by simp)) (by simp only [List.mem_singleton]; exact ne_of S4.a w4 (by simp)) (by simpa using hwe.symm)
          have L5 : LamT σ5 305 q310 := L4.sub u5 (by simp only [List.mem_singleton]; exact ne_of hps' w4 (by simp)) (fun b hb => by rw [List.mem_singleton.mp hb, w4]; simp)
          have k1 := u5 _ _ k1 (by simp only [List.mem_singleton]; exact ne_of k1 w4 (by simp))
          have k3 := u5 _ _ k3 (by simp only [List.mem_singleton]; exact ne_of k3 w4 (by simp))
          simp_wf
          refine drop_lam S5 L5 (by exact hc) k1 k3 (by have := g.len; omega) (fun h => by rw [hT] at h; cases h) (fun v' hv' σ6 u6 L6 S6 => ?_)
          rw [hT] at hv'; cases hv'
          simp_wf
          refine eqBB ?_
          have A6 := after_tab S5 w5 L5 hwe u6
          exact hQ σ6 _ true S6 A6.1 gd L6 (y1.frm.trans (F4.trans (F5.trans A6.2))) (fun q => by omega)
        · have hd : dropT k T = dput k ⟨v.ps, v.b, v.n - 1⟩ T := by unfold dropT; rw [hT]; dsimp only; rw [if_pos (by have := gv.2.2.1; omega)]
          have hb1 : (v.n == 1) = false := by simpa using hv1
          refine isBB (ifF (by rw [hb1]; decide) ?_)
          simp_wf
          refine drop_lam S4 L4 (by exact hc) k1 k3 (by have := g.len; omega) (fun h => by rw [hT] at h; cases h) (fun v' hv' σ6 u6 L6 S6 => ?_)
          rw [hT] at hv'; cases hv'
          simp_wf
          refine eqBB ?_
          have A6 := after_tab S4 ⟨es, w4, W4⟩ L4 hwe u6
          rw [← hd] at A6
          exact hQ σ6 _ true S6 A6.1 gd L6 (y1.frm.trans (F4.trans A6.2)) (fun q => by omega)
    · refine eqF hx2 ?_
      have fin : ∀ (ps : List (Int × Int × Int)) (b : Int) (σ' : St) (ℓ' : Lc), ps ∈ plsS → 0 ≤ b ∧ b ≤ 7 → Ext σ σ' → σ' ct = some (.cell (some (.ref t))) → σ' cb = some (.cell (some (.int b))) → σ' ck = some (.cell (some (kyD k))) → σ' cp = some (.cell (some (psD ps))) → ℓ'.cel = ℓ.cel → ℓ'.loc (Str.ofString "world") = some (.ref w) →
          (x % 4 = 0 → ∀ v, T.lookup k = some v → v.ps = ps ∧ v.b = b) → rest310 ℓ' σ' (fun _ σ' => Q .none σ') Q E := fun ps b σ' ℓ' q1 q2 q3 q4 q5 q6 q7 q8 q9 q10 =>
        deed_rest (S.ext q3) (W.ext q3) g hm (L.ext q3) hwe (q8.trans hc) q4 q5 q6 q7 q9 hk q1 q2 fun σ'' T' ch' a1 a2 a3 a4 a5 a6 => hQ σ'' T' ch' a1 a2 a3 a4 (q3.frm.trans a5) fun z => a6 (q10 z)
      -- the cells as the names are bound
      have two : ∀ (ps : List (Int × Int × Int)) (b : Int) (σ' : St), Ext σ3 σ' → Ext σ ((σ'.put cp (.cell (some (psD ps)))).put cb (.cell (some (.int b)))) ∧
          ((σ'.put cp (.cell (some (psD ps)))).put cb (.cell (some (.int b)))) ct = some (.cell (some (.ref t))) ∧ ((σ'.put cp (.cell (some (psD ps)))).put cb (.cell (some (.int b)))) cb = some (.cell (some (.int b))) ∧
          ((σ'.put cp (.cell (some (psD ps)))).put cb (.cell (some (.int b)))) ck = some (.cell (some (kyD k))) ∧ ((σ'.put cp (.cell (some (psD ps)))).put cb (.cell (some (.int b)))) cp = some (.cell (some (psD ps))) := fun ps b σ' x' => by
        refine ⟨((y1.trans x').put g4).put g2, ?_, St.put_same, ?_, ?_⟩
        · rw [put_eq, if_neg (Ne.symm n21), put_eq, if_neg (Ne.symm n41)]; exact x' _ _ k1
        · rw [put_eq, if_neg n32, put_eq, if_neg (Ne.symm n43)]; exact x' _ _ k3
        · rw [put_eq, if_neg n42, St.put_same]
      have h1' : (ℓ.set (Str.ofString "way") (.int (x % 4))).loc (Str.ofString "world") = some (.ref w) := loc_ne (by decide) h1
      simp_wf
      by_cases hx0 : x % 4 = 0
      · refine eqT hx0 ?_
        simp_wf
        refine ⟨by decide, C_286 fun ps hps σ4 x4 => ?_⟩
        simp_wf
        refine eqF (by omega) ?_
        simp_wf
        refine ⟨ble rfl, _, rfl, rfl, ?_⟩
        have j4 := x4 _ _ k4
        have j2 : (σ4.put cp (.cell (some (psD ps)))) cb = some (.cell none) := by rw [put_eq, if_neg (Ne.symm n42)]; exact x4 _ _ k2
        obtain ⟨b1, b2, b3, b4, b5⟩ := two ps 7 σ4 x4
        simp_wf
        generalize (σ4.put cp (.cell (some (psD ps)))).put cb (.cell (some (.int 7))) = σ5 at b1 b2 b3 b4 b5
        have W5 : WldS σ5 w T := W.ext b1
        obtain ⟨es5, W5, W6⟩ := W5
        refine eqT hx0 ?_
        cases hT : T.lookup k with
        | none =>
          refine e_ifT (inKWn l3 h1' b4 W5 W6 hT (e_ifF (e_nil ?_)))
          exact fin ps 7 σ5 _ hps (by decide) b1 b2 b3 b4 b5 rfl h1' (fun _ v hv => by rw [hT] at hv; cases hv)
        | some v =>
          obtain ⟨a, ha1, ha2⟩ := W6.at_ _ _ hT
          simp_wf
          refine ⟨ble rfl, _, rfl, rfl, ?_⟩
          have j2 : (σ5.put cp (.cell (some (psD v.ps)))) cb = some (.cell (some (.int 7))) := by rw [put_eq, if_neg (Ne.symm n42)]; exact b3
          refine e_sets1 (e_setC l4 b5 (e_sets1 (e_setC l2 j2 (e_sets0 (e_nil ?_)))))
          have gv := g.at hT
          refine fin v.ps v.b _ _ gv.1 gv.2.1 ((b1.put g4).put g2) ?_ St.put_same ?_ ?_ rfl h1' (fun _ v' hv => by rw [hT] at hv; cases hv; exact ⟨rfl, rfl⟩)
          · rw [put_eq, if_neg (Ne.symm n21), put_eq, if_neg (Ne.symm n41)]; exact b2
          · rw [put_eq, if_neg n32, put_eq, if_neg (Ne.symm n43)]; exact b4
          · rw [put_eq, if_neg n42, St.put_same]
      · have hx1 : x % 4 = 1 := by lia
        refine eqF hx0 ?_
        simp_wf
        refine C_286 fun ps hps σ4 x4 => ?_
        simp_wf
        refine eqT hx1 ?_
        simp_wf
        refine ⟨by decide, ?_⟩
        rw [Int.fmod_eq_emod_of_nonneg _ (by decide)]
        refine obAdd ?_
        simp_wf
        refine ⟨ble rfl, _, rfl, rfl, ?_⟩
        have j4 := x4 _ _ k4
        have j2 : (σ4.put cp (.cell (some (psD ps)))) cb = some (.cell none) := by rw [put_eq, if_neg (Ne.symm n42)]; exact x4 _ _ k2
        obtain ⟨b1, b2, b3, b4, b5⟩ := two ps (1 + z % 3) σ4 x4
        simp_wf
        generalize (σ4.put cp (.cell (some (psD ps)))).put cb (.cell (some (.int (1 + z % 3)))) = σ5 at b1 b2 b3 b4 b5
        refine eqF hx0 (e_ifF (e_ifF (e_nil ?_)))
        exact fin ps (1 + z % 3) σ5 _ hps (by lia) b1 b2 b3 b4 b5 rfl h1' (fun q => by omega)
end Mine
end F_Ct12b
section F_Ct13
open PySem PySem.W PySem.Spec PySem.Calls PyProof.Rows
namespace Mine
theorem slc_map {α β : Type} (f : α → β) (l : List α) (lo hi : Option Int) : slc (l.map f) lo hi = (slc l lo hi).map f := by
  unfold slc
  rw [List.length_map, ← List.map_drop, ← List.map_take]
theorem slc_len {α : Type} (l : List α) (n : Nat) : (slc l none (some (n : Int))).length ≤ n := by
  refine Nat.le_trans (List.length_take_le _ _) (Nat.le_trans (Nat.sub_le _ _) ?_)
  show clipAt l.length (n : Int) ≤ n
  unfold clipAt
  rw [if_neg (Int.not_lt.mpr (Int.natCast_nonneg n))]
  exact Int.toNat_le.mpr (Int.max_le.mpr ⟨Int.natCast_nonneg n, Int.min_le_left _ _⟩)
noncomputable def tail6 : List Int := [0, 0, 0, 0, 1, 1]
theorem last_zero (l : List Int) {i : Nat} (h : i + 1 = (l ++ tail6).length / 3) : (l ++ tail6)[3 * i]? = some 0 := by
  rw [List.length_append] at h
  have h6 : tail6.length = 6 := rfl
  rw [h6] at h
  have : 3 * i = l.length + 1 ∨ 3 * i = l.length + 2 ∨ 3 * i = l.length + 3 := by lia
  rw [List.getElem?_append_right (by omega)]
  rcases this with q | q | q
  · rw [show 3 * i - l.length = 1 by omega]; rfl
  · rw [show 3 * i - l.length = 2 by omega]; rfl
  · rw [show 3 * i - l.length = 3 by omega]; rfl
theorem slc3 {l : List Int} {i : Nat} (h : 3 * i + 3 ≤ l.length) : ∃ x y z, slc l (some (3 * (i : Int))) (some (3 * (i : Int) + 3)) = [x, y, z] ∧ l[3 * i]? = some x := by
  have e1 : (3 * (i : Int)) = ((3 * i : Nat) : Int) := by omega
  have e2 : ((3 * i : Nat) : Int) + 3 = ((3 * i + 3 : Nat) : Int) := by omega
  have hd : (l.drop (3 * i)).length = l.length - 3 * i := List.length_drop
  unfold slc
  rw [e1, e2]
  simp only [Option.elim]
  rw [clip_in (i := 3 * i) (by omega), clip_in (i := 3 * i + 3) h, show 3 * i + 3 - 3 * i = 3 by omega]
  match hq : l.drop (3 * i), hd with
  | x :: y :: z :: r, _ =>
    refine ⟨x, y, z, rfl, ?_⟩
    have := congrArg (·[0]?) hq
    simpa using this
  | [], hd => simp at hd; omega
  | [_], hd => simp at hd; omega
  | [_, _], hd => simp at hd; omega
structure LawS (σ : St) (t td e w dg sc co cc : Addr) (ch : Bool) (T : Tab) (m : Int) (ds ss : List Int) (sO : Addr) (oS : Obj) (xO : List D) : Prop where
  z : σ sO = some (.fix oS xO)
  S : TabS σ t td e ch T
  W : WldS σ w T
  g : GoodT m T
  L : LamT σ 305 q310
  d : σ dg = some (.list (ds.map .int))
  s : σ sc = some (.list (ss.map .int))
  k1 : σ co = some (.cell none)
  k2 : σ cc = some (.cell none)
  p : σ 317 = some (.tab [])
  h : w ≠ e
structure LawL (ℓ : Lc) (t w dg sc co cc : Addr) : Prop where
  c : ℓ.cel = [(Str.ofString "octets", co), (Str.ofString "cut", cc)]
  t : ℓ.loc "table" = some (.ref t)
  w : ℓ.loc "world" = some (.ref w)
  d : ℓ.loc "digits" = some (.ref dg)
  s : ℓ.loc "script" = some (.ref sc)
theorem LawS.ext {σ σ' t td e w dg sc co cc ch T m ds ss sO oS xO} (x : LawS σ t td e w dg sc co cc ch T m ds ss sO oS xO) (h : Ext σ σ') : LawS σ' t td e w dg sc co cc ch T m ds ss sO oS xO :=
  ⟨h _ _ x.z, x.S.ext h, x.W.ext h, x.g, x.L.ext h, h _ _ x.d, h _ _ x.s, h _ _ x.k1, h _ _ x.k2, h _ _ x.p, x.h⟩
structure FinS (σ : St) (t td e sc co cc : Addr) (T : Tab) (ss : List Int) (O : List UInt8) (sO : Addr) (oS : Obj) (xO : List D) : Prop where
  z : σ sO = some (.fix oS xO)
  L : LamT σ 305 q310
  S : TabS σ t td e true T
  s : σ sc = some (.list (ss.map .int))
  k1 : σ co = some (.cell (some (.bytes O.toArray)))
  k2 : σ cc = some (.cell none)
  p : σ 317 = some (.tab [])
theorem FinS.ext {σ σ' t td e sc co cc T ss O sO oS xO} (x : FinS σ t td e sc co cc T ss O sO oS xO) (h : Ext σ σ') : FinS σ' t td e sc co cc T ss O sO oS xO := ⟨h _ _ x.z, x.L.ext h, x.S.ext h, h _ _ x.s, h _ _ x.k1, h _ _ x.k2, h _ _ x.p⟩
theorem FinS.mk' {σ t td e w dg sc co cc T m ds ss O sO oS xO} (A : LawS σ t td e w dg sc co cc true T m ds ss sO oS xO) (n : co ≠ cc) : FinS (σ.put co (.cell (some (.bytes (List.toArray O))))) t td e sc co cc T ss O sO oS xO := by
  have u : Sub [co] σ (σ.put co (.cell (some (.bytes (List.toArray O))))) := Ext.refl.sub.put (.inr (.head _))
  obtain ⟨ps, hps, _⟩ := id A.L
  refine ⟨u _ _ A.z ?_, A.L.sub u ?_ (fun b hb => by rw [List.mem_singleton.mp hb, A.k1]; simp), A.S.sub u ?_ ?_ ?_, u _ _ A.s ?_, St.put_same, u _ _ A.k2 (by simpa using n.symm), u _ _ A.p ?_⟩ <;> simp only [List.mem_singleton]
  · exact ne_of A.z A.k1 (by simp)
  · exact ne_of hps A.k1 (by simp)
  · exact ne_of A.S.i A.k1 (by simp)
  · exact ne_of A.S.a A.k1 (by simp)
  · exact ne_of A.S.d A.k1 (by simp)
  · exact ne_of A.s A.k1 (by simp)
  · exact ne_of A.p A.k1 (by simp)
theorem ne_rows {σ : St} {a b : Addr} {T : Tab} {N : Bool → Prop} (hl : σ a = some (.list (T.map rowD))) (hl' : σ b = some (.list (T.map rowD))) (h : N false) : opCmp .NotEq (.ref a) (.ref b) σ N := by
  rw [oc_neR]
  have L : Lay 20 (.list (T.map rowP)) := rows_lay T
  refine ⟨_, _, .list hl (rowsData T), .list hl' (rowsData T), L, L, ?_⟩
  rw [eqv_of_eq L rfl]; exact h
noncomputable abbrev q322 : Str := (Fq_322 ++ ".<locals>.") ++ "<lambda>"
inductive LawI (t td e w dg sc co cc : Addr) (ds ss : List Int) (sO : Addr) (oS : Obj) (xO : List D) (n : Nat) (js : List Nat) (ℓ : Lc) (σ : St) : Prop
  | mk (i : Nat) (ch : Bool) (T : Tab) : i + js.length = n → js = (List.range n).drop i → LawS σ t td e w dg sc co cc ch T i ds ss sO oS xO → LawL ℓ t w dg sc co cc → (i = n → ch = true ∧ T ≠ []) → LawI t td e w dg sc co cc ds ss sO oS xO n js ℓ σ
theorem C_322 {σ : St} {s : Addr} {oS : Obj} {ns : List Int} {Q : D → St → Prop} {E : Addr → St → Prop} (hs : σ s = some (.fix oS (ns.map .int))) (hn : ns.length ≤ 63) (h305 : σ 305 = some (.tab [])) (h317 : σ 317 = some (.tab []))
    (hQ : ∀ σ', σ' s = some (.fix oS (ns.map .int)) → (∃ ps, σ' 305 = some (.tab ps)) → (∃ ps, σ' 317 = some (.tab ps)) → Q (.bool true) σ') : P_322 [.ref s] σ Q E := by
  unfold P_322
  refine enterC rfl fun ℓ σ1 hl x1 hc1 hc2 hc3 => ?_
  obtain ⟨co, cc, hc⟩ := cel2 (x := "octets") (y := "cut") hc1
  have k1 : σ1 co = some (.cell none) := (hc3 ("octets", co) (by rw [hc]; simp)).2
  have k2 : σ1 cc = some (.cell none) := (hc3 ("cut", cc) (by rw [hc]; simp)).2
  rw [hc] at hc2
  simp only [List.map_cons, List.map_nil, List.nodup_cons, List.mem_cons, not_or, List.not_mem_nil, or_false] at hc2
  obtain ⟨n12, _⟩ := hc2
  clear hc1 hc3
  have l1 : List.lookup (Str.ofString "octets") ℓ.cel = some co := by rw [hc]; simp
  have l2 : List.lookup (Str.ofString "cut") ℓ.cel = some cc := by rw [hc]; simp [List.lookup_cons, str_beq]
  have h1 := hl "script" _ rfl
  clear hl
  have hs := x1 _ _ hs
  have h305 := x1 _ _ h305
  have h317 := x1 _ _ h317
  clear x1
  dsimp only [R_322]
  refine hSeq fun M1 m1 => ?_
  simp_wf
  rw [show (63 : Int) = ((63 : Nat) : Int) from rfl]
  refine ⟨_, .inr ⟨_, hs⟩, by rw [List.length_map]; omega, fun sc hsc => ?_⟩
  rw [slc_map]
  have x2 : Ext σ1 (σ1.put sc (.list ((slc ns none (some ((63 : Nat) : Int))).map .int))) := Ext.refl.put hsc
  have es : (σ1.put sc (.list ((slc ns none (some ((63 : Nat) : Int))).map .int))) sc = some (.list ((slc ns none (some ((63 : Nat) : Int))).map .int)) := St.put_same
  have hsl := slc_len ns 63
  generalize slc ns none (some ((63 : Nat) : Int)) = ss at x2 es hsl
  generalize σ1.put sc (.list (ss.map .int)) = σ2 at x2 es
  refine m1 _ _ (hSeq fun M2 m2 => ?_)
  simp_wf
  refine C_new fun t td e σ3 n1 n2 n3 x3 S3 w hw => ?_
  refine swpT (ble rfl) rfl ?_
  have x4 : Ext σ3 (σ3.put w (.dict [])) := Ext.refl.put hw
  have W4 : WldS (σ3.put w (.dict [])) w [] := ⟨[], St.put_same, wr_nil⟩
  have hwe : w ≠ e := (Ext.ne S3.d hw)
  generalize σ3.put w (.dict []) = σ4 at x4 W4
  have x5 := x2.trans (x3.trans x4)
  have S4 := S3.ext x4
  have L4 : LamT σ4 305 q310 := ⟨[], x5 _ _ h305, fun _ h => nomatch h⟩
  refine hCtx (fun l => All4 (l.cel = ℓ.cel) (l.loc "script" = some (.ref sc)) (l.loc "table" = some (.ref t)) (l.loc "world" = some (.ref w))) ⟨rfl, (by with_reducible first | assumption | exact loc_same | exact loc_ne (by decide) (by assumption) | exact loc_ne (by decide) loc_same | exact loc_ne (by decide) (loc_ne (by decide) (by assumption)) | exact loc_ne (by decide) (loc_ne (by decide) loc_same) | exact loc_ne (by decide) (loc_ne (by decide) (loc_ne (by decide) (by assumption))) | exact loc_ne (by decide) (loc_ne (by decide) (loc_ne (by decide) loc_same)) | exact loc_ne (by decide) (loc_ne (by decide) (loc_ne (by decide) (loc_ne (by decide) (by assumption)))) | exact loc_ne (by decide) (loc_ne (by decide) (loc_ne (by decide) (loc_ne (by decide) loc_same)))), (by with_reducible first | assumption | exact loc_same | exact loc_ne (by decide) (by assumption) | exact loc_ne (by decide) loc_same | exact loc_ne (by decide) (loc_ne (by decide) (by assumption)) | exact loc_ne (by decide) (loc_ne (by decide) loc_same) | exact loc_ne (by decide) (loc_ne (by decide) (loc_ne (by decide) (by assumption))) | exact loc_ne (by decide) (loc_ne (by decide) (loc_ne (by decide) loc_same)) | exact loc_ne (by decide) (loc_ne (by decide) (loc_ne (by decide) (loc_ne (by decide) (by assumption)))) | exact loc_ne (by decide) (loc_ne (by decide) (loc_ne (by decide) (loc_ne (by decide) loc_same)))), (by with_reducible first | assumption | exact loc_same | exact loc_ne (by decide) (by assumption) | exact loc_ne (by decide) loc_same | exact loc_ne (by decide) (loc_ne (by decide) (by assumption)) | exact loc_ne (by decide) (loc_ne (by decide) loc_same) | exact loc_ne (by decide) (loc_ne (by decide) (loc_ne (by decide) (by assumption))) | exact loc_ne (by decide) (loc_ne (by decide) (loc_ne (by decide) loc_same)) | exact loc_ne (by decide) (loc_ne (by decide) (loc_ne (by decide) (loc_ne (by decide) (by assumption)))) | exact loc_ne (by decide) (loc_ne (by decide) (loc_ne (by decide) (loc_ne (by decide) loc_same))))⟩ fun ℓ2 C2 => ?_
  obtain ⟨jc, js, jt, jw⟩ := C2
  refine m2 _ _ (hSeq fun M3 m3 => ?_)
  simp_wf
  refine S4.chg ?_
  simp_wf
  refine C_315 S4 W4 (GoodT.nil (m := 0)) (by decide) fun σ5 x6 => ?_
  refine m3 _ _ (hSeq fun M4 m4 => ?_)
  simp_wf
  have es5 := (x3.trans (x4.trans x6)) _ _ es
  rw [show (60 : Int) = ((60 : Nat) : Int) from rfl]
  refine ⟨_, .inl es5, by rw [List.length_map]; omega, fun c1 hc1 => ?_⟩
  rw [slc_map]
  have x7 : Ext σ5 (σ5.put c1 (.list ((slc ss none (some ((60 : Nat) : Int))).map .int))) := Ext.refl.put hc1
  have e7 : (σ5.put c1 (.list ((slc ss none (some ((60 : Nat) : Int))).map .int))) c1 = some (.list ((slc ss none (some ((60 : Nat) : Int))).map .int)) := St.put_same
  have h60 := slc_len ss 60
  generalize slc ss none (some ((60 : Nat) : Int)) = d0 at x7 e7 h60
  generalize σ5.put c1 (.list (d0.map .int)) = σ6 at x7 e7
  refine ⟨_, e7, by rw [List.length_map]; omega, fun c2 hc2 => ⟨ble rfl, fun c3 hc3 => ?_⟩⟩
  have x8 : Ext σ6 (σ6.put c2 (.list (d0.map .int))) := Ext.refl.put hc2
  have e8 : (σ6.put c2 (.list (d0.map .int))) c2 = some (.list (d0.map .int)) := St.put_same
  generalize σ6.put c2 (.list (d0.map .int)) = σ7 at x8 e8 hc3
  have t6 : [D.int 0, D.int 0, D.int 0, D.int 0, D.int 1, D.int 1] = tail6.map .int := rfl
  rw [t6]
  have x9 : Ext σ7 (σ7.put c3 (.list (tail6.map .int))) := Ext.refl.put hc3
  have e9 : (σ7.put c3 (.list (tail6.map .int))) c3 = some (.list (tail6.map .int)) := St.put_same
  generalize σ7.put c3 (.list (tail6.map .int)) = σ8 at x9 e9
  refine ⟨_, _, x9 _ _ e8, e9, by simp [tail6]; omega, fun dg hdg => ?_⟩
  rw [← List.map_append]
  have x10 : Ext σ8 (σ8.put dg (.list ((d0 ++ tail6).map .int))) := Ext.refl.put hdg
  have e10 : (σ8.put dg (.list ((d0 ++ tail6).map .int))) dg = some (.list ((d0 ++ tail6).map .int)) := St.put_same
  generalize σ8.put dg (.list ((d0 ++ tail6).map .int)) = σ9 at x10 e10
  have x11 := x6.trans (x7.trans (x8.trans (x9.trans x10)))
  have A0 : LawS σ9 t td e w dg sc co cc false [] 0 (d0 ++ tail6) ss s oS (ns.map .int) :=
    ⟨(x5.trans x11) _ _ hs, S4.ext x11, W4.ext x11, GoodT.nil, L4.ext x11, e10, (x7.trans (x8.trans (x9.trans x10))) _ _ es5, (x5.trans x11) _ _ k1, (x5.trans x11) _ _ k2, (x5.trans x11) _ _ h317, hwe⟩
  have hdl : (d0 ++ tail6).length ≤ 66 := by rw [List.length_append]; show d0.length + 6 ≤ 66; omega
  have hdl' : 6 ≤ (d0 ++ tail6).length := by rw [List.length_append]; show 6 ≤ d0.length + 6; lia
  have hlast : ∀ i, i + 1 = (d0 ++ tail6).length / 3 → (d0 ++ tail6)[3 * i]? = some 0 := fun i h => last_zero d0 h
  generalize d0 ++ tail6 = ds at A0 hdl hdl' hlast
  clear x11 e10 x10 e9 x9 e8 x8 x7 e7 x6 x5 x4 x3 x2 es5 S4 W4 L4 S3 hs h305 h317 k1 k2
  refine m4 _ _ (hSeq fun M5 m5 => hFor fun B0 hB0 => ?_)
  simp_wf
  refine e_pnil (fl_lenL' A0.d ?_)
  rw [List.length_map]
  refine ⟨by omega, ?_⟩
  refine ⟨by decide, ?_⟩
  have ediv : (ds.length : Int).fdiv 3 = ((ds.length / 3 : Nat) : Int) := by rw [Int.fdiv_eq_ediv_of_nonneg _ (by decide)]; lia
  rw [ediv]
  generalize hN : ds.length / 3 = n at hlast
  refine e_pnil (fl_rngN fun r hr => ?_)
  have A1 := A0.ext (Ext.refl.put (o := .range n) hr)
  have er : (σ9.put r (.range n)) r = some (.range n) := St.put_same
  generalize σ9.put r (.range n) = σ10 at A1 er
  refine ⟨notItems_rng er, _, none, .range er (by omega), ?_⟩
  simp only [frz_n, thaw_n]
  refine forP_map (fun (j : Nat) => D.int (j : Int)) (List.range n) (LawI t td e w dg sc co cc ds ss s oS (ns.map .int) n) ?_ ?_ ⟨0, false, [], by rw [List.length_range, Nat.zero_add], rfl, A1, ?_, fun q => by omega⟩
  · clear A1 A0 er hr
    rintro j js ℓ' σ' K hj ⟨i, ch, T, hi, hxs, A, B, _⟩ k
    have hin : i < n := by rw [List.length_cons] at hi; omega
    rw [List.drop_eq_getElem_cons (by rw [List.length_range]; exact hin), List.cons.injEq, List.getElem_range] at hxs
    obtain ⟨rfl, rfl⟩ := hxs
    obtain ⟨dx, dy, dz, e1, e2⟩ := slc3 (l := ds) (i := j) (by omega)
    refine hB0 _ _ _ _ _ (hSeq fun N1 n1 => ?_)
    have bd := B.d
    have bt := B.t
    have bw := B.w
    have bs := B.s
    simp_wf
    refine ⟨IntMulOk.of_left (by decide), ?_⟩
    simp_wf
    refine ⟨IntMulOk.of_left (by decide), ?_⟩
    simp_wf
    refine ⟨_, .inl A.d, by rw [List.length_map]; omega, fun c hc => ?_⟩
    rw [slc_map, e1]
    have A2 := A.ext (Ext.refl.put (o := .list ([dx, dy, dz].map .int)) hc)
    have ec : (σ'.put c (.list ([dx, dy, dz].map .int))) c = some (.list ([dx, dy, dz].map .int)) := St.put_same
    generalize σ'.put c (.list ([dx, dy, dz].map .int)) = σ2 at A2 ec
    refine ⟨_, ec, rfl, ?_⟩
    simp only [List.map_cons, List.map_nil]
    simp_wf
    refine hCtx (fun l => All3 (LawL l t w dg sc co cc) (l.loc "x" = some (.int dx)) (l.loc "y" = some (.int dy) ∧ l.loc "z" = some (.int dz))) ⟨⟨B.c, (by with_reducible first | assumption | exact loc_same | exact loc_ne (by decide) (by assumption) | exact loc_ne (by decide) loc_same | exact loc_ne (by decide) (loc_ne (by decide) (by assumption)) | exact loc_ne (by decide) (loc_ne (by decide) loc_same) | exact loc_ne (by decide) (loc_ne (by decide) (loc_ne (by decide) (by assumption))) | exact loc_ne (by decide) (loc_ne (by decide) (loc_ne (by decide) loc_same)) | exact loc_ne (by decide) (loc_ne (by decide) (loc_ne (by decide) (loc_ne (by decide) (by assumption)))) | exact loc_ne (by decide) (loc_ne (by decide) (loc_ne (by decide) (loc_ne (by decide) loc_same)))), (by with_reducible first | assumption | exact loc_same | exact loc_ne (by decide) (by assumption) | exact loc_ne (by decide) loc_same | exact loc_ne (by decide) (loc_ne (by decide) (by assumption)) | exact loc_ne (by decide) (loc_ne (by decide) loc_same) | exact loc_ne (by decide) (loc_ne (by decide) (loc_ne (by decide) (by assumption))) | exact loc_ne (by decide) (loc_ne (by decide) (loc_ne (by decide) loc_same)) | exact loc_ne (by decide) (loc_ne (by decide) (loc_ne (by decide) (loc_ne (by decide) (by assumption)))) | exact loc_ne (by decide) (loc_ne (by decide) (loc_ne (by decide) (loc_ne (by decide) loc_same)))), (by with_reducible first | assumption | exact loc_same | exact loc_ne (by decide) (by assumption) | exact loc_ne (by decide) loc_same | exact loc_ne (by decide) (loc_ne (by decide) (by assumption)) | exact loc_ne (by decide) (loc_ne (by decide) loc_same) | exact loc_ne (by decide) (loc_ne (by decide) (loc_ne (by decide) (by assumption))) | exact loc_ne (by decide) (loc_ne (by decide) (loc_ne (by decide) loc_same)) | exact loc_ne (by decide) (loc_ne (by decide) (loc_ne (by decide) (loc_ne (by decide) (by assumption)))) | exact loc_ne (by decide) (loc_ne (by decide) (loc_ne (by decide) (loc_ne (by decide) loc_same)))), (by with_reducible first | assumption | exact loc_same | exact loc_ne (by decide) (by assumption) | exact loc_ne (by decide) loc_same | exact loc_ne (by decide) (loc_ne (by decide) (by assumption)) | exact loc_ne (by decide) (loc_ne (by decide) loc_same) | exact loc_ne (by decide) (loc_ne (by decide) (loc_ne (by decide) (by assumption))) | exact loc_ne (by decide) (loc_ne (by decide) (loc_ne (by decide) loc_same)) | exact loc_ne (by decide) (loc_ne (by decide) (loc_ne (by decide) (loc_ne (by decide) (by assumption)))) | exact loc_ne (by decide) (loc_ne (by decide) (loc_ne (by decide) (loc_ne (by decide) loc_same))))⟩, (by with_reducible first | assumption | exact loc_same | exact loc_ne (by decide) (by assumption) | exact loc_ne (by decide) loc_same | exact loc_ne (by decide) (loc_ne (by decide) (by assumption)) | exact loc_ne (by decide) (loc_ne (by decide) loc_same) | exact loc_ne (by decide) (loc_ne (by decide) (loc_ne (by decide) (by assumption))) | exact loc_ne (by decide) (loc_ne (by decide) (loc_ne (by decide) loc_same)) | exact loc_ne (by decide) (loc_ne (by decide) (loc_ne (by decide) (loc_ne (by decide) (by assumption)))) | exact loc_ne (by decide) (loc_ne (by decide) (loc_ne (by decide) (loc_ne (by decide) loc_same)))), (by with_reducible first | assumption | exact loc_same | exact loc_ne (by decide) (by assumption) | exact loc_ne (by decide) loc_same | exact loc_ne (by decide) (loc_ne (by decide) (by assumption)) | exact loc_ne (by decide) (loc_ne (by decide) loc_same) | exact loc_ne (by decide) (loc_ne (by decide) (loc_ne (by decide) (by assumption))) | exact loc_ne (by decide) (loc_ne (by decide) (loc_ne (by decide) loc_same)) | exact loc_ne (by decide) (loc_ne (by decide) (loc_ne (by decide) (loc_ne (by decide) (by assumption)))) | exact loc_ne (by decide) (loc_ne (by decide) (loc_ne (by decide) (loc_ne (by decide) loc_same)))), (by with_reducible first | assumption | exact loc_same | exact loc_ne (by decide) (by assumption) | exact loc_ne (by decide) loc_same | exact loc_ne (by decide) (loc_ne (by decide) (by assumption)) | exact loc_ne (by decide) (loc_ne (by decide) loc_same) | exact loc_ne (by decide) (loc_ne (by decide) (loc_ne (by decide) (by assumption))) | exact loc_ne (by decide) (loc_ne (by decide) (loc_ne (by decide) loc_same)) | exact loc_ne (by decide) (loc_ne (by decide) (loc_ne (by decide) (loc_ne (by decide) (by assumption)))) | exact loc_ne (by decide) (loc_ne (by decide) (loc_ne (by decide) (loc_ne (by decide) loc_same))))⟩ fun ℓ3 C3 => ?_
    obtain ⟨B3, jx, jyz⟩ := C3
    have jy := jyz.1
    have jz := jyz.2
    have jt := B3.t
    have jw := B3.w
    refine n1 _ _ (hSeq fun N2 n2 => ?_)
    simp_wf
    refine C_310 A2.S A2.W A2.g ⟨by omega, by omega⟩ A2.L A2.h fun σ3 T' ch' q1 q2 q3 q4 q5 q6 => ?_
    simp_wf
    have A3 : LawS σ3 t td e w dg sc co cc ch' T' ((j + 1 : Nat) : Int) ds ss s oS (ns.map .int) := ⟨q5 _ _ A2.z .fix, q1, q2, q3, q4, q5 _ _ A2.d (.lst _), q5 _ _ A2.s (.lst _), q5 _ _ A2.k1 (.cell _), q5 _ _ A2.k2 (.cell _), q5 _ _ A2.p (.tab (by decide)), A2.h⟩
    refine C_315 A3.S A3.W A3.g (by omega) fun σ4 x4 => ?_
    refine n2 _ _ ?_
    refine k _ _ ⟨j + 1, ch', T', by rw [List.length_cons] at hi; omega, rfl, A3.ext x4, ?_, fun q => q6 ?_⟩
    · exact B3
    · rw [hlast j q] at e2
      cases e2; rfl
  · rintro ℓ' σ' ⟨i, ch, T, hi, hxs, A, B, hlst⟩
    have hin : i = n := hi
    obtain ⟨rfl, hT⟩ := hlst hin
    clear hxs hlst A1 A0 er hr hlast
    refine m5 _ _ (hSeq fun M6 m6 => ?_)
    have bt := B.t
    have bw := B.w
    have bs := B.s
    simp_wf
    have gm : (i : Int) ≤ 1000 := by omega
    refine C_267 A.S A.g.len A.g.nd A.g.ks (A.g.sort.wf gm) (sort_len A.g) fun σ1 x1 => ?_
    have lc1 : List.lookup (Str.ofString "octets") ℓ'.cel = some co := by rw [B.c]; simp
    have lc2 : List.lookup (Str.ofString "cut") ℓ'.cel = some cc := by rw [B.c]; simp [List.lookup_cons, str_beq]
    have A1 := A.ext x1
    have j1 := A1.k1
    simp_wf
    have F := FinS.mk' (O := enc (sortT T)) A1 n12
    have hg := A1.g
    have hw := A1.g.sort.wf gm
    have hO := enc_len hw (by rw [sort_len hg]; exact hg.len)
    have hO0 : 0 < (enc (sortT T)).length := by simp [enc, leB_length]; lia
    clear x1 A j1 A1
    generalize σ1.put co (.cell (some (.bytes (enc (sortT T)).toArray))) = σ2 at F
    have j1 := F.k1
    refine m6 _ _ (hSeq fun M7 m7 => ?_)
    simp_wf
    refine F.S.meth rfl rfl (C_253 F.S hg.len hg.nd hg.ks fun r σ3 x3 hr => ?_)
    have F3 := F.ext (x3.trans (Ext.refl.put (o := .list ((sortT T).map rowD)) hr))
    have er : (σ3.put r (.list ((sortT T).map rowD))) r = some (.list ((sortT T).map rowD)) := St.put_same
    generalize σ3.put r (.list ((sortT T).map rowD)) = σ4 at F3 er
    refine C_296 er (by rw [sort_len hg]; exact hg.len) hw fun σ5 x5 => ?_
    rw [oc_neY]
    have e0 : ((enc (sortT T)).toArray.toList != (enc (sortT T)).toArray.toList) = false := by simp
    rw [e0]
    have F5 := F3.ext x5
    clear x5 er F3 x3 hr F j1
    simp_wf
    refine F5.S.chg ?_
    have j5 := F5.k1
    refine m7 _ _ (hSeq fun M8 m8 => hFor fun B0 hB1 => ?_)
    simp_wf
    refine ⟨_, _, F5.s, intsOf_map _ _, ?_⟩
    simp only [List.map_id']
    refine ⟨by decide, ?_⟩
    rw [Int.fmod_eq_emod_of_nonneg _ (by decide)]
    refine ⟨by omega, by omega, ?_⟩
    refine ⟨by simp; lia, ble rfl, notItems_tup, _, none, .tup (by simp), ?_⟩
    simp only [frz_n, thaw_n]
    refine forP_ind (fun xs ℓ4 σ4 => (∀ x ∈ xs, ∃ pad : List UInt8, pad.length ≤ 4 ∧ x = .bytes (enc (sortT T) ++ pad).toArray) ∧ FinS σ4 t td e sc co cc T ss (enc (sortT T)) s oS (ns.map .int) ∧ LawL ℓ4 t w dg sc co cc) ?_ ?_ _ _ _ ⟨?_, F5, B⟩
    · rintro x xs ℓ4 σ4 K ⟨hx, F4, B4⟩ k
      obtain ⟨pad, hp1, rfl⟩ := hx x (.head _)
      refine hB1 _ _ _ _ _ (hSeq fun N1 n1 => ?_)
      simp_wf
      refine C_272 (f := true) (T := sortT T) (by simp; omega) ⟨pad, rfl⟩ hw (by rw [sort_len hg]; exact hg.len) (sortT_nd T) (sortT_asc T) (fun q => by cases q) fun _ t2 td2 e2 σ6 x6 T6 => ?_
      have F6 := F4.ext x6
      have g2 := hg.sort
      refine hCtx (fun l => LawL l t w dg sc co cc ∧ l.loc "again" = some (.ref t2)) ⟨⟨B4.c, loc_ne (by decide) (loc_ne (by decide) B4.t), loc_ne (by decide) (loc_ne (by decide) B4.w), loc_ne (by decide) (loc_ne (by decide) B4.d), loc_ne (by decide) (loc_ne (by decide) B4.s)⟩, loc_same⟩ fun ℓ5 C5 => ?_
      have B5 := C5.1
      have ja := C5.2
      clear C5
      have bt := B5.t
      refine n1 _ _ (hSeq fun N2 n2 => ?_)
      simp_wf
      refine T6.meth rfl rfl (C_253 T6 g2.len g2.nd g2.ks fun r1 σ7 x7 hr1 => ?_)
      rw [sort_sort hg]
      have x8 : Ext σ6 (σ7.put r1 (.list ((sortT T).map rowD))) := x7.trans (Ext.refl.put hr1)
      have er1 : (σ7.put r1 (.list ((sortT T).map rowD))) r1 = some (.list ((sortT T).map rowD)) := St.put_same
      generalize σ7.put r1 (.list ((sortT T).map rowD)) = σ8 at x8 er1
      have F8 := F6.ext x8
      have T8 := T6.ext x8
      simp_wf
      refine F8.S.meth rfl rfl (C_253 F8.S hg.len hg.nd hg.ks fun r2 σ9 x9 hr2 => ?_)
      have x10 : Ext σ8 (σ9.put r2 (.list ((sortT T).map rowD))) := x9.trans (Ext.refl.put hr2)
      refine ne_rows (x10 _ _ er1) St.put_same ?_
      have T10 := T8.ext x10
      have F10 := F8.ext x10
      simp_wf
      refine T10.chg ?_
      refine n2 _ _ ?_
      exact k _ _ ⟨fun y hy => hx y (.tail _ hy), F10, B5⟩
    · rintro ℓ4 σ4 ⟨_, F4, B4⟩
      have lc1 : List.lookup (Str.ofString "octets") ℓ4.cel = some co := by rw [B4.c]; simp
      have lc2 : List.lookup (Str.ofString "cut") ℓ4.cel = some cc := by rw [B4.c]; simp [List.lookup_cons, str_beq]
      have bs := B4.s
      refine m8 _ _ (hSeq fun M9 m9 => ?_)
      simp_wf
      refine ⟨_, _, F4.s, intsOf_map _ _, ?_⟩
      simp only [List.map_id']
      have j1 := F4.k1
      have j2 := F4.k2
      simp_wf
      refine ⟨by rw [List.size_toArray]; omega, ?_⟩
      refine ⟨by rw [List.size_toArray]; omega, ?_⟩
      rw [Int.fmod_eq_emod_of_nonneg _ (by rw [List.size_toArray]; omega)]
      rw [List.size_toArray]
      simp_wf
      have hm0 : 0 ≤ ss.sum % ((enc (sortT T)).length : Int) := Int.emod_nonneg _ (by omega)
      have hm1 : ss.sum % ((enc (sortT T)).length : Int) < ((enc (sortT T)).length : Int) := Int.emod_lt_of_pos _ (by omega)
      generalize ss.sum % ((enc (sortT T)).length : Int) = cv at hm0 hm1
      obtain ⟨cn, rfl⟩ : ∃ cn : Nat, cv = (cn : Int) := ⟨cv.toNat, by lia⟩
      have u5 : Sub [cc] σ4 (σ4.put cc (.cell (some (.int (cn : Int))))) := Ext.refl.sub.put (.inr (.head _))
      have j1 := u5 _ _ j1 (by simpa using n12)
      have p5 := u5 _ _ F4.p (by simp only [List.mem_singleton]; exact ne_of F4.p j2 (by simp))
      have z5 := u5 _ _ F4.z (by simp only [List.mem_singleton]; exact ne_of F4.z j2 (by simp))
      obtain ⟨ps5, t5, _⟩ := F4.L
      have t5 := u5 _ _ t5 (by simp only [List.mem_singleton]; exact ne_of t5 j2 (by simp))
      have j2 : (σ4.put cc (.cell (some (.int (cn : Int))))) cc = some (.cell (some (.int (cn : Int)))) := St.put_same
      generalize σ4.put cc (.cell (some (.int (cn : Int)))) = σ5 at j1 j2 p5 z5 t5
      have L5 : LamT σ5 317 q322 := ⟨[], p5, fun _ h => nomatch h⟩
      refine m9 _ _ (e_seq (e_ret (e_cmp (e_call (e_cons ?_)))))
      refine lam_ok L5 (cl := [(Str.ofString "octets", co), (Str.ofString "cut", cc)]) (by rw [B4.c]; rfl) fun f c o σ6 u6 L6 hf hcd LO => ?_
      refine C_303 (fLam_ok LO hf hcd ?_)
      have j1 := u6 _ _ j1 (by simp only [List.mem_singleton]; exact ne_of j1 p5 (by simp))
      have j2 := u6 _ _ j2 (by simp only [List.mem_singleton]; exact ne_of j2 p5 (by simp))
      have z6 := u6 _ _ z5 (by simp only [List.mem_singleton]; exact ne_of z5 p5 (by simp))
      have t6' := u6 _ _ t5 (by decide)
      obtain ⟨ps7, t7, _⟩ := L6
      have lo1 : List.lookup (Str.ofString "octets") [(Str.ofString "octets", co), (Str.ofString "cut", cc)] = some co := by simp
      have lo2 : List.lookup (Str.ofString "cut") [(Str.ofString "octets", co), (Str.ofString "cut", cc)] = some cc := by simp [List.lookup_cons, str_beq]
      simp_wf
      refine ⟨by simp; omega, ?_⟩
      have es : slc (enc (sortT T)).toArray.toList none (some (cn : Int)) = (enc (sortT T)).take cn := by
        unfold slc
        simp only [Option.elim, List.drop_zero]
        rw [clip_in (i := cn) (by omega)]
        simp
      rw [es]
      refine C_272 (f := false) (T := sortT T) (by simp; omega) ⟨cn, by omega, rfl⟩ hw (by rw [sort_len hg]; exact hg.len) (sortT_nd T) (sortT_asc T) (fun _ σ7 x7 => ?_) (fun q => by cases q)
      rw [told_c]
      refine e_str (eqSS ?_)
      exact hQ _ (x7 _ _ z6) ⟨_, x7 _ _ t6'⟩ ⟨_, x7 _ _ t7⟩
    · intro x hx
      simp only [List.mem_cons, List.not_mem_nil, or_false] at hx
      rcases hx with rfl | rfl
      · exact ⟨[], by simp, by simp⟩
      · refine ⟨List.replicate (ss.sum % 5).toNat 0, by simp; omega, ?_⟩
        rw [← List.append_toArray]
        simp
  · exact ⟨jc.trans hc, loc_ne (by decide) jt, loc_ne (by decide) jw, loc_same, loc_ne (by decide) js⟩
end Mine
end F_Ct13
section F_Jn1
open PySem PySem.W PySem.Spec PySem.Calls PyProof.Rows
namespace Mine
noncomputable def TopEnd (w : World) (hB : Heap) (σ : St) (s : Shared) (Q : D → St → Prop) (v : Value) (s' : Shared) : Prop :=
  ∃ d σ' h' tk', s' = { s with heap := h', toks := tk' } ∧ VR h' v d ∧ (∀ a o, s.heap.get? a = some o → σ a = none → h'.get? a = some o) ∧ (∀ a o, s.heap.get? a = some o → ∃ o', h'.get? a = some o') ∧ (∀ a o, σ' a = some o → ORep w h' a o) ∧ Q d σ'
theorem top_enter {w : World} {s : Shared} {hB : Heap} {σ : St} {f : Addr} {qual : Str} {params : Arguments} {body : List Stmt} {scope : Scope} {bs : List D → Option (List (Str × D))} {cd : Option Addr} {n : Nat} {P : SP} {vs : List Value} {ds : List D} {b : List (Str × D)} {Q : D → St → Prop}
    (Df : DefAt f qual params body scope bs cd) (H : SndSsR (nkD scope.names cd (qual ++ ".<locals>.")) n 8 body P) (hn : n ≤ 10)
    (G : Glob w hB) (stays : hB.StaysIn s.heap) (two : ∃ o, hB.get? cStatics = some o) (low : ∀ a, σ a ≠ none → hB.get? a = none ∧ sysModules < a) (rep : ∀ a o, σ a = some o → ORep w s.heap a o)
    (K0 : (KF w).In s.heap) (rs : VRs s.heap vs ds) (q : bs ds = some b) (hp : pEnter scope.names b σ fun ℓ σ' => P ℓ σ' (fun _ σ'' => Q .none σ'') Q fun _ _ => False) :
    codeR (model prg w) callerA (.call (.ref f) ⟨vs, []⟩) (fun r s' => match r with | .ok (.ret v) => TopEnd w hB σ s Q v s' | _ => False) s := by
  obtain ⟨loose, mean, mg, mb, T⟩ := G.T
  obtain ⟨oc, od, osl, name, dV, kV, doc, pm, an, cdv, ct, ho, hcd, hcdv, hb⟩ := Df.at_ w
  obtain ⟨vb, hbt, hbr⟩ := hb s vs ds b K0 rs q
  refine codeR_call_function (by decide +kernel) (K0 _ _ ho) rfl Df.co Df.gen rfl (codeRec_of K0 hcd) (hbt _ _ _ _ ?_)
  have hkind : (vb.all fun y => scope.names.lookup y.1 == some .local || scope.names.lookup y.1 == some .cell) = true := by
    rw [List.all_eq_true]
    intro y hy
    have : y.1 ∈ b.map (·.1) := by rw [← hbr.names]; exact List.mem_map_of_mem hy
    rcases Df.kinds ds b q _ this with z | z <;> simp [z]
  refine wpAny_newFunctionEnv_cells Df.kind (kindsX hkind _) fun env he s' x => ?_
  have hf : env.frame = some s.heap.objs.size := by rw [he]; rfl
  have hL : env.locals = s.heap.objs.size := by rw [he]; rfl
  have hk : env.scope.kind = .function := by rw [he]; exact Df.kind
  have hsc : env.scope = scope := by rw [he]; rfl
  have hkf : env.kindOf = fun x => scope.names.lookup x := by funext x; show env.scope.names.lookup x = _; rw [hsc]
  have hcl : env.cells = cellsFrom (s.heap.objs.size + 1) scope.names [] := by rw [he]; rfl
  obtain ⟨h1, tk1, rfl, hup⟩ := x.done
  have hnd : (env.cells.map (·.1)).Nodup := by rw [hcl, cellsFrom_names scope.names (s.heap.objs.size + 1) 0 [] [] rfl]; exact Df.nd
  have up : ∀ b o, s.heap.get? b = some o → h1.get? b = some o := x.toInCall.keep
  have newC : ∀ a, s.heap.objs.size ≤ a → New s.heap a := fun a ha => by
    obtain ⟨o, e⟩ := two
    exact ⟨get_ge ha, Nat.lt_of_lt_of_le (Nat.lt_trans (show sysModules < cStatics by decide) (Heap.lt_size (stays _ _ e))) ha⟩
  have freshC : ∀ a, s.heap.objs.size ≤ a → σ a = none := fun a ha => by
    cases e : σ a with
    | none => rfl
    | some o =>
      obtain ⟨ob, e', _⟩ := (rep a o e).some_
      rw [(newC a ha).1] at e'; cases e'
  have noB : ∀ a, s.heap.objs.size ≤ a → hB.get? a = none := fun a ha => by
    cases e : hB.get? a with
    | none => rfl
    | some o => have := stays _ _ e; rw [(newC a ha).1] at this; cases this
  have t : TupK s.heap h1 := fun b o _ _ e => up b o e
  have rl := (hbr.keep t).loc env.kindOf RelM.none
  have rc := (hbr.keep t).cel env.kindOf RelM.none
  have cge : ∀ p ∈ env.cells, s.heap.objs.size < p.2 := fun p hp => hL ▸ x.above p.1 p.2 hp
  generalize hcm : bindCD env.kindOf b (fun _ => none) = cm at rc
  have new : ∀ a, putCells env.cells cm σ a ≠ none → σ a ≠ none ∨ New s.heap a := fun a h => by
    rcases putCells_none a h with z | z
    · exact .inl z
    · obtain ⟨p, hp, rfl⟩ := List.mem_map.mp z; exact .inr (newC _ (Nat.le_of_lt (cge p hp)))
  have kpE : ∀ fr xs, Kp fr xs σ s.heap (putCells env.cells cm σ) h1 := fun fr xs => ⟨fun a o e _ _ _ => up a o e, fun a m n _ _ _ => n.at' fun o e => up a o e, fun a o e => ⟨o, up a o e⟩, new, putCells_mono⟩
  have nd1 : (env.cells.map (·.2)).Nodup := by
    have := x.apart
    rw [List.Nodup, List.pairwise_map]
    exact this
  have hLs : hB.get? env.locals = none := noB _ (Nat.le_of_eq hL.symm)
  have offL : putCells env.cells cm σ env.locals = none := by
    cases e : putCells env.cells cm σ env.locals with
    | none => rfl
    | some o =>
      rcases putCells_none env.locals (by rw [e]; simp) with z | z
      · exact absurd (freshC _ (Nat.le_of_eq hL.symm)) z
      · obtain ⟨p, hp, e⟩ := List.mem_map.mp z
        have := cge p hp
        rw [e, hL] at this; exact absurd this (Nat.lt_irrefl _)
  let X0 : Cx := ⟨w, hB, callerA.deeper env, [env], env⟩
  have hfr : X0.fr = [env.locals, env.locals] := by
    show env.locals :: [env].filterMap (·.frame) = _
    rw [List.filterMap_cons, hf, hL]; rfl
  have dy1 : Dy X0 ⟨bindLD env.kindOf b fun _ => none, env.cells⟩ (putCells env.cells cm σ) h1 := by
    refine ⟨fun b o e => up b o (stays b o e), two, fun env' he' => ?_, fun L h => ?_, hLs, ⟨_, x.toInCall.ns, fun z d e => ?_⟩, rfl, fun a h => ?_, fun a o h => ?_⟩
    · cases List.mem_singleton.mp he'
      exact ⟨by rw [hk]; decide, _, _, hf.trans (by rw [hL]), hLs, x.toInCall.ns⟩
    · rw [hfr] at h
      simp only [List.mem_cons, List.not_mem_nil, or_false, or_self] at h
      rw [h]; exact offL
    · have := rl z; simp only at e; rw [e] at this; exact this
    · rcases new a h with z | z
      · exact low a z
      · refine ⟨?_, z.2⟩
        show hB.get? a = none
        cases q : hB.get? a with
        | none => rfl
        | some o => have := stays _ _ q; rw [z.1] at this; cases this
    · rcases putCells_at h with z | ⟨nm, hm, rfl⟩
      · exact (rep a o z).keep t (up a)
      · have hc := x.cell nm a (lookup_of_mem_nodup hnd hm)
        have r := rc nm
        show ORep w h1 a (.cell (cm nm))
        cases q : cm nm with
        | none => rw [q] at r; rw [r] at hc; exact hc
        | some d => rw [q] at r; obtain ⟨v, e, rv⟩ := r; rw [e] at hc; exact ⟨v, hc, rv⟩
  refine ⟨(T.nolimit.keeps stays).keeps hup, codeR_func ?_⟩
  have fs : Fs (nkD scope.names cd (qual ++ ".<locals>.")) n 8 X0 := {
    G := G
    fr := ⟨env, [], _, rfl, hf, hf⟩
    frames := Around.frames_deeper rfl
    handled := rfl
    guards := rfl
    depth := by
      have : callerA.depth + 1 + 10 + 4 < recursionLimit := by decide +kernel
      show callerA.depth + 1 + n + 4 < _; omega
    units := by
      have : callerA.units + 3 + 200 * 10 + 10 * 8 + 100 < cLine := by decide +kernel
      show callerA.units + 3 + 200 * n + 10 * 8 + 100 < _; omega
    kind := hk
    names := fun x k h => by
      have hn2 : nkD scope.names cd (qual ++ ".<locals>.") = nkD env.scope.names cd env.qual := by rw [hsc, he]; rfl
      rw [hn2] at h
      have h : (x = codeName ∧ ∃ c, cd = some c ∧ k = .cod c env.qual) ∨ nkOf env.scope.names x = some k := by
        unfold nkD at h
        split at h
        · exact .inr h
        · split at h
          · rename_i q; cases h; exact .inl ⟨q, _, rfl, rfl⟩
          · exact .inr h
      rcases h with ⟨_, c, e, rfl⟩ | h
      · exact ⟨by show env.code = _; rw [he]; exact hcdv c e, rfl⟩
      unfold nkOf at h
      split at h
      · rename_i q; cases h; exact q
      · rename_i q; cases h; exact q
      · rename_i q; cases h; exact .inr q
      · rename_i q; cases h; exact q
      · cases h
    globals := by show env.globals = _; rw [he]; rfl
    builtins := by show env.builtins = _; rw [he]; rfl
    top := ⟨[], rfl⟩
    own := hf.trans (by rw [← hL]) }
  have hp1 := hp env.cells (by rw [hcl]; exact cellsFrom_names scope.names _ 0 [] [] rfl) nd1 fun p hp => freshC _ (Nat.le_of_lt (cge p hp))
  rw [← hkf, hcm] at hp1
  have ends : ∀ {v d ℓ' σ' h' tk'}, VR h' v d → Dy X0 ℓ' σ' h' → Kp X0.fr [env.locals] (putCells env.cells cm σ) h1 σ' h' → Q d σ' → TopEnd w hB σ s Q v { s with heap := h', toks := tk' } := fun {v d ℓ' σ' h' tk'} vr dy' kp' hq => by
    have kp := (kpE X0.fr [env.locals]).trans kp'
    refine ⟨d, σ', h', tk', rfl, vr, fun a o e hs => kp.keep a o e hs (fun z => ?_) (fun z => ?_), kp.live, dy'.rep, hq⟩
    · rw [hfr] at z
      simp only [List.mem_cons, List.not_mem_nil, or_false, or_self] at z
      rw [z, (newC _ (Nat.le_of_eq hL.symm)).1] at e; cases e
    · rw [List.mem_singleton.mp z, (newC _ (Nat.le_of_eq hL.symm)).1] at e; cases e
  refine wpR_mono (H X0 _ _ { s with heap := h1, toks := tk1 } _ _ _ fs dy1 hp1) (fun fl s' p => ?_) fun v s' p => ?_
  · rcases p with ⟨rfl, ℓ', σ', h', tk', rfl, dy', kp', hq⟩ | ⟨v, d, ℓ', σ', h', tk', rfl, rfl, vr, dy', kp', hq⟩
    · exact ends .none dy' kp' hq
    · exact ends vr dy' kp' hq
  · obtain ⟨C, e, ℓ', σ', h', tk', rfl, rfl, dy', kp', ex, hq⟩ := p
    exact hq.elim
end Mine
end F_Jn1
section F_Jn2
open PySem PySem.W PySem.Spec PySem.Calls PyProof.Rows
namespace Mine
noncomputable def noLists (K : Frag) : Bool := K.all fun p => match p.2.cls with | .type t => t != "list" | _ => true
theorem noLists_ok {K : Frag} (h : noLists K = true) {a : Addr} {o : Obj} (e : K.lookup a = some o) : o.cls ≠ .type "list" := fun q => by
  have := List.all_eq_true.mp h (a, o) (mem_of_lookupK e)
  simp [q] at this
theorem KF_noLists (w : World) : noLists (KF w) = true := rfl
theorem KF_305 (w : World) : (KF w).lookup 305 = none := rfl
theorem KF_317 (w : World) : (KF w).lookup 317 = none := rfl
theorem KF_309 (w : World) : codeHdIn (KF w) 309 305 = true := rfl
theorem KF_321 (w : World) : codeHdIn (KF w) 321 317 = true := rfl
theorem KF_law (w : World) : nsIn (KF w) mainGlobals (Str.ofString "law") = some (some (.ref 322)) := rfl
section
variable {h : Heap} {sA : Addr} {o : Obj} {vs : Array Value} {n : Nat}
theorem hid_get {b : Addr} {ob : Obj} (T8 : ∀ P ∈ [305, 317], h.get? P = some (tabObj #[])) (hs : h.get? sA = some o) (hd : o.data = .seq vs n) (e : h.get? b = some ob) (h1 : ob ≠ tabObj #[]) (h2 : ∀ vs n, ob.data ≠ .seq vs n) : (hideAll h [305, 317, sA]).get? b = some ob := by
  refine hideAll_get _ e fun z => ?_
  simp only [List.mem_cons, List.not_mem_nil, or_false] at z
  rcases z with rfl | rfl | rfl
  · have := T8 305 (by simp); rw [e] at this; exact h1 (Option.some.inj this)
  · have := T8 317 (by simp); rw [e] at this; exact h1 (Option.some.inj this)
  · rw [hs] at e; cases e; exact h2 _ _ hd
theorem hid_K {w : World} (K : (KF w).In h) (hs : h.get? sA = some o) (hc : o.cls = .type "list") : (KF w).In (hideAll h [305, 317, sA]) := fun a ob e => by
  refine hideAll_get _ (K a ob e) fun z => ?_
  simp only [List.mem_cons, List.not_mem_nil, or_false] at z
  rcases z with rfl | rfl | rfl
  · rw [KF_305] at e; cases e
  · rw [KF_317] at e; cases e
  · have := K _ _ e; rw [hs] at this; cases this
    exact noLists_ok (KF_noLists w) e hc
theorem hid_ns {a : Addr} {mm : Str → Option Value} (T8 : ∀ P ∈ [305, 317], h.get? P = some (tabObj #[])) (hs : h.get? sA = some o) (hd : o.data = .seq vs n) (x : h.Ns a mm) : (hideAll h [305, 317, sA]).Ns a mm :=
  let ⟨ob, es, ep, e, he, r⟩ := x; ⟨ob, es, ep, hid_get T8 hs hd e (fun q => by rw [q] at he; cases he) (fun _ _ q => by rw [he] at q; cases q), he, r⟩
theorem hid_top {p : Program} {loose : List Str} {mean : ExcName → Option Value} {mg mb : Str → Option Value} (T8 : ∀ P ∈ [305, 317], h.get? P = some (tabObj #[])) (hs : h.get? sA = some o) (hd : o.data = .seq vs n) (T : Top p loose mean mg mb h) :
    Top topProg (loose ++ (recsOf p).map (·.name) ++ (litsOf p).map (·.1) ++ (clssOf p loose).map (·.name)) mean mg mb (hideAll h [305, 317, sA]) where
  g := hid_ns T8 hs hd T.g
  b := hid_ns T8 hs hd T.b
  nolimit := let ⟨mc, a, r⟩ := T.nolimit; ⟨mc, hid_ns T8 hs hd a, r⟩
  nodigits := let ⟨mc, a, r⟩ := T.nodigits; ⟨mc, hid_ns T8 hs hd a, r⟩
  fn := fun d hd => absurd (show d ∈ ([] : List DefRec) from hd) List.not_mem_nil
  own := fun o ho => absurd (show o ∈ ([] : List OwnSpec) from ho) List.not_mem_nil
  const := fun x d e => by cases (show (none : Option PyData) = some d from e)
  free := fun x h1 h2 _ _ _ => by
    simp only [List.mem_append, not_or] at h2
    exact T.free x h1 h2.1.1.1 h2.1.1.2 h2.1.2 h2.2
  builtins := T.builtins
  tab := fun d hd => absurd (show d ∈ ([] : List DefRec) from hd) List.not_mem_nil
  bmain := let ⟨bm, ob, a1, a2, a3, a4, a5, a6⟩ := T.bmain; ⟨bm, ob, a1, a2, hid_get T8 hs hd a3 (fun q => by rw [q] at a4; cases a4) (fun _ _ q => by rw [a6] at q; cases q), a4, a5, a6⟩
  seer := fun e => absurd (show false = true from e) Bool.false_ne_true
theorem codeTab_of {c P : Addr} (C : CodeHd h c P) : isCodeTable h P := let ⟨o, vs, _, _, _, _, _, _, _, e1, e2, e3, e4, _⟩ := C; ⟨c, o, vs, e1, e2, e3, e4⟩
end
theorem run_law {w : World} {s : Shared} {sA : Addr} {o : Obj} {vs : Array Value} {n : Nat} {ns : List Int} {p : Program} {loose : List Str} {mean : ExcName → Option Value} {mg mb : Str → Option Value}
    (KX : (KF w).In s.heap) (T8 : ∀ P ∈ [305, 317], s.heap.get? P = some (tabObj #[])) (T : Top p loose mean mg mb s.heap) (hs : s.heap.get? sA = some o) (hcl : o.cls = .type "list") (hd : o.data = .seq vs n) (hv : VRs s.heap vs.toList (ns.map .int)) (hn : ns.length ≤ 63) (h1 : sA ≠ sysModules) :
    codeR (model prg w) callerA (.call (.ref 322) ⟨[.ref sA], []⟩) (fun r s' => match r with | .ok (.ret v) => v = .bool true ∧ OldK s.heap s'.heap ∧ s'.os = s.os ∧ s'.gens = s.gens | _ => False) s := by
  have e305 := T8 305 (by simp)
  have e317 := T8 317 (by simp)
  have n1 : sA ≠ 305 := fun q => by rw [q, e305] at hs; cases hs; cases hcl
  have n2 : sA ≠ 317 := fun q => by rw [q, e317] at hs; cases hs; cases hcl
  have n0 : sA ≠ builtinsNs := fun q => by
    obtain ⟨ob, es, ep, e, he, _⟩ := T.b
    rw [← q, hs] at e; cases e; rw [hd] at he; cases he
  let σ : St := fun a => if a = 305 then some (.tab []) else if a = 317 then some (.tab []) else if a = sA then some (.fix o (ns.map .int)) else none
  have s305 : σ 305 = some (.tab []) := rfl
  have s317 : σ 317 = some (.tab []) := rfl
  have sS : σ sA = some (.fix o (ns.map .int)) := by show (if sA = 305 then _ else _) = _; rw [if_neg n1, if_neg n2, if_pos rfl]
  have sN : ∀ a, a ∉ [305, 317, sA] → σ a = none := fun a z => by
    simp only [List.mem_cons, List.not_mem_nil, or_false, not_or] at z
    show (if a = 305 then _ else _) = _
    rw [if_neg z.1, if_neg z.2.1, if_neg z.2.2]
  have sI : ∀ a, σ a ≠ none → a ∈ [305, 317, sA] := fun a z => Classical.byContradiction fun q => z (sN a q)
  have Kh := hid_K (w := w) KX hs hcl
  have G : Glob w (hideAll s.heap [305, 317, sA]) := by
    refine ⟨fun q hq => ?_, Kh, ⟨_, _, _, _, hid_top T8 hs hd T⟩⟩
    simp only [codeTabs, List.mem_cons, List.not_mem_nil, or_false] at hq
    rcases hq with rfl | rfl
    · exact codeHd_of_K Kh (KF_309 w)
    · exact codeHd_of_K Kh (KF_321 w)
  have hQ := C_322 (σ := σ) (Q := fun d σ' => d = .bool true ∧ σ' sA = some (.fix o (ns.map .int)) ∧ (∃ ps, σ' 305 = some (.tab ps)) ∧ ∃ ps, σ' 317 = some (.tab ps)) (E := fun _ _ => False) sS hn s305 s317 fun σ' a b c => ⟨rfl, a, b, c⟩
  unfold P_322 pDef at hQ
  have hb : bsPlain [Str.ofString "script"] [D.ref sA] = some [(Str.ofString "script", D.ref sA)] := rfl
  rw [hb] at hQ
  refine codeR_mono (top_enter D_322 R_322.2.h (by decide) G (fun a ob e => of_hideAll _ e) ?_ ?_ ?_ KX (ds := [.ref sA]) (.cons (.ref _) .nil) hb hQ) fun r s' hr => ?_
  · obtain ⟨mc, ⟨ob, _, _, e, _⟩, _⟩ := (hid_top T8 hs hd T).nodigits
    exact ⟨ob, e⟩
  · intro a ha
    have hm := sI a ha
    refine ⟨hideAll_none _ hm, ?_⟩
    simp only [List.mem_cons, List.not_mem_nil, or_false] at hm
    rcases hm with rfl | rfl | rfl
    · decide
    · decide
    · have a1 : a ≠ 1 := h1
      have a0 : a ≠ 0 := n0
      exact Nat.lt_of_le_of_ne (Nat.one_le_iff_ne_zero.mpr a0) (Ne.symm a1)
  · intro a ob ha
    have hm := sI a (by rw [ha]; simp)
    simp only [List.mem_cons, List.not_mem_nil, or_false] at hm
    rcases hm with rfl | rfl | rfl
    · rw [s305] at ha; cases ha; exact e305
    · rw [s317] at ha; cases ha; exact e317
    · rw [sS] at ha; cases ha
      exact ⟨hs, hcl, vs, n, hd, hv⟩
  · split at hr
    · obtain ⟨d, σ', h', tk', rfl, vr, keep, live, rep, rfl, z1, ⟨ps, z2⟩, ps', z3⟩ := hr
      refine ⟨vr.bool_inv, ⟨fun b ob e => ?_, live⟩, rfl, rfl⟩
      by_cases hm : b ∈ [305, 317, sA]
      · simp only [List.mem_cons, List.not_mem_nil, or_false] at hm
        have tb : ∀ {P : Addr} {ps : List (Int × Int × Addr)}, isCodeTable s.heap P → s.heap.get? P = some (tabObj #[]) → h'.get? P = some (tabObj (tabVs ps).toArray) → s.heap.get? P = some ob → asItWas s.heap h' P ob := fun {P ps} c e1 e2 e3 => by
          rw [e1] at e3; cases e3
          exact .inr (.inl ⟨c, rfl, #[], (tabVs ps).toArray, rfl, by rw [e2]; simp⟩)
        rcases hm with rfl | rfl | rfl
        · exact tb (codeTab_of (codeHd_of_K KX (KF_309 w))) e305 (rep _ _ z2) e
        · exact tb (codeTab_of (codeHd_of_K KX (KF_321 w))) e317 (rep _ _ z3) e
        · rw [hs] at e; cases e
          exact .inl (rep _ _ z1).1
      · exact .inl (keep b ob e (sN b hm))
    · exact hr.elim
theorem vrs_of_ints {h : Heap} : ∀ {vs : List Value} {ns : List Int}, IntsAre vs ns → VRs h vs (ns.map .int)
  | _, _, .nil => .nil
  | _, _, .cons n t h => .cons (.int n t) (vrs_of_ints h)
set_option tactic.hygienic true in
theorem law_holds : PySem.Challenge.rw_np0188_01.Holds := by
  refine hd ?_
  intro w s₀ s₁ mg mb G Y fa o pm cd doc dV kV ho hdd hcd hD hmg hg args vals as hpre hlay hrd hwl hlo
  have KX : (KF w).In s₁.heap := km_in_of Y
  have T8 := km_tabs_of Y
  have T := G.T
  have hfa : fa = 322 := by
    have := mg_of KX T.g (KF_law w)
    have h2 : mg (Str.ofString "law") = some (.ref fa) := hmg
    rw [this] at h2
    cases h2; rfl
  subst hfa
  have hlo2 := hlo
  have hrd2 := hrd
  clear hD hcd hdd pm hmg ho Y G
  wrow_args hpre hlay hrd hwl hlo
  rename_i ns _ _ _ _ _ as1 as2 sA xs as3 hL ra w1 r0 hI hr hcond _
  obtain ⟨ob, e1, e2, m, e3⟩ := hL
  have h1 : sA ≠ sysModules := fun q => by
    have hm : sA ∈ as1 := by cases r0; exact .head _
    have := hlo2 sA (List.mem_append_left _ hm)
    rw [q] at this; simp at this
  have hv : VRs s₁.heap xs.toArray.toList (ns.map .int) := vrs_of_ints hI
  refine wpR_call (codeR_mono (run_law KX T8 T e1 e2 e3 hv (by omega) h1) fun r s' hr => ?_)
  split at hr
  · obtain ⟨rfl, hO, ho, hgs⟩ := hr
    exact ⟨.inl ⟨.bool true, .bool true, [], rfl, fun cls => rfl, .bool true, by wrow_post, fun _ => ⟨.nil, fun _ h => nomatch h⟩⟩, hO, ho, .of_eq (hgs.trans hg)⟩
  · exact hr.elim
end Mine
end F_Jn2
open PySem PySem.W in
theorem PySem.Challenge.cw_np0188_01_holds : PySem.Challenge.rw_np0188_01.Holds :=
  Mine.law_holds
