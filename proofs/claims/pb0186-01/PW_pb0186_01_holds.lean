import PyProof.Rows.All
import Wide.All
import OpenK.AllK
import Wide.FinOn
import PySem.Challenge.RW_pb0186_01
open PySem PySem.W PyProof.Rows
set_option Elab.async false
set_option maxRecDepth 100000
set_option maxHeartbeats 8000000
namespace Mine

section
open PySem.Calls PySem.Spec

/-- codes that hold a bytearray's memory while they stand on the stack -/
def holderIds : List String := ["bytearray.__contains__", "bytearray.__mod__", "bytearray.__rmod__", "_struct.pack_into.held", "bytearray.find.held"] ++ Builtin.Bytes.decodersThatHold
def holder : Code → Bool
  | .builtin id _ => holderIds.contains id
  | _ => false
def GoodB (Γ : _root_.PySem.Ctx) : Prop := ∀ q ∈ Γ.below, holder q.1 = false
def GoodC (Γ : _root_.PySem.Ctx) : Prop := holder Γ.code = false ∧ GoodB Γ

/-- «ends without a raise», from every context in which nothing holds a bytearray's memory -/
def wpS {α : Type} (M : Model) (A : Around) (t : Sem α) (Q : α → Shared → Prop) (s : Shared) : Prop :=
  ∀ Γ p, Γ.In A → GoodC Γ → Sem.wp M Γ t (fun a _ s' => Q a s') (fun _ _ _ => False) p s
def okFin (R : Flow → Shared → Prop) (r : Result) (s' : Shared) : Prop := match r with
  | .ok f => R f s'
  | .error _ => False
def codeS (M : Model) (A : Around) (c : Code) (R : Flow → Shared → Prop) (s : Shared) : Prop :=
  ∀ Γ p, Γ.code = c → Γ.Below A → GoodB Γ → wpCode M Γ (okFin R) p s

section
variable {α β : Type} {M : Model} {A : Around} {s : Shared}
theorem wpS_of_any {t : Sem α} {Q : α → Shared → Prop} (h : wpAny M A t Q (fun _ _ => False) s) : wpS M A t Q s := fun Γ p hΓ _ => h Γ p hΓ
theorem wpS_pure {a : α} {Q : α → Shared → Prop} (h : Q a s) : wpS M A (pure a) Q s := fun _ _ _ _ => h
theorem wpS_mono {t : Sem α} {Q Q' : α → Shared → Prop} (h : wpS M A t Q s) (hQ : ∀ a s, Q a s → Q' a s) : wpS M A t Q' s :=
  fun Γ p hΓ hG => Sem.wp_mono M Γ t (fun a _ s => hQ a s) (fun _ _ _ h => h) p s (h Γ p hΓ hG)
theorem wpS_bind {m : Sem α} {f : α → Sem β} {Q : β → Shared → Prop} (h : wpS M A m (fun a s' => wpS M A (f a) Q s') s) : wpS M A (m >>= f) Q s := fun Γ p hΓ hG => by
  rw [Sem.wp_bind']
  exact Sem.wp_mono M Γ m (fun a p' s' h' => h' Γ p' hΓ hG) (fun _ _ _ h' => h') p s (h Γ p hΓ hG)
/-- the first part by the library, the rest here -/
theorem wpS_seq {m : Sem α} {f : α → Sem β} {Q : β → Shared → Prop} (h : wpAny M A m (fun a s' => wpS M A (f a) Q s') (fun _ _ => False) s) : wpS M A (m >>= f) Q s := wpS_bind (wpS_of_any h)
theorem wpS_holding {vs : List Value} {m : Sem α} {Q : α → Shared → Prop} (h : wpS M A m Q s) : wpS M A (holding vs m) Q s :=
  fun Γ p hΓ hG => by rw [Sem.wp_holding]; exact h Γ p hΓ hG
theorem wpS_keep {vs : List Value} {m : Sem α} {Q : α → Shared → Prop} (h : wpS M A m Q s) : wpS M A (m.keep vs) Q s :=
  fun Γ p hΓ hG => by rw [Sem.wp_keep]; exact h Γ p hΓ hG
theorem wpS_onRaise {m : Sem α} {k : Value → Sem Unit} {Q : α → Shared → Prop} (h : wpS M A m Q s) : wpS M A (m.onRaise k) Q s := fun Γ p hΓ hG => by
  rw [Sem.wp_onRaise]
  exact Sem.wp_mono M Γ m (fun _ _ _ h' => h') (fun _ _ _ h' => h'.elim) p s (h Γ p hΓ hG)
theorem wpS_run {c : Code} {h : Option Value} {Q : Flow → Shared → Prop} (hc : codeS M (A.mark h) c Q s) (hnb : h ≠ some byPass := by intro x; cases x) : wpS M A (run c h) Q s := fun Γ p hΓ hG => by
  rw [Sem.wp_run]
  refine wpCode_mono (fun r s' hr => ?_) (hc _ p rfl (hΓ.enter c h p hnb) fun q hq => ?_)
  · cases r with
    | ok f => exact hr
    | error e => exact hr.elim
  · rcases List.mem_cons.mp hq with rfl | hq
    · exact hG.1
    · exact hG.2 q hq
theorem wpS_runValue {c : Code} {Q : Value → Shared → Prop} (hc : codeS M A c (fun f s' => match f with | .ret v => Q v s' | _ => False) s) : wpS M A (runValue c) Q s := fun Γ p hΓ hG => by
  rw [Sem.wp_runValue]
  refine wpCode_mono (fun r s' hr => ?_) (hc _ p rfl (hΓ.enter c none p (by intro x; cases x)) fun q hq => ?_)
  · cases r with
    | ok f => cases f <;> first | exact hr | exact hr.elim
    | error e => exact hr.elim
  · rcases List.mem_cons.mp hq with rfl | hq
    · exact hG.1
    · exact hG.2 q hq
theorem wpS_call {f : Value} {pos : List Value} {kw : List (Str × Value)} {Q : Value → Shared → Prop} (hc : codeS M A (.call f ⟨pos, kw⟩) (fun f s' => match f with | .ret v => Q v s' | _ => False) s) : wpS M A (call f pos kw) Q s := wpS_runValue hc
theorem codeS_mono {c : Code} {R R' : Flow → Shared → Prop} (h : codeS M A c R s) (hR : ∀ f s, R f s → R' f s) : codeS M A c R' s := fun Γ p hc hΓ hG =>
  wpCode_mono (fun r s' hr => by
    cases r with
    | ok f => exact hR f s' hr
    | error e => exact hr) (h Γ p hc hΓ hG)
theorem codeS_of_tree {c : Code} {R : Flow → Shared → Prop} (hh : holder c = false)
    (h : wpS M (A.under c) (M.den c) (fun fin s' => match fin with | .done f => R f s' | .again c' => c'.quiet = true ∧ codeS M A c' R s') s) : codeS M A c R s := fun Γ p hc hΓ hG => by
  rw [wpCode_iff_wp, hc]
  refine Sem.wp_mono M Γ _ (fun fin p' s' h' => ?_) (fun _ _ _ h' => h'.elim) p s (h Γ p (hc ▸ hΓ.in) ⟨by rw [hc]; exact hh, hG⟩)
  cases fin with
  | done f => exact h'
  | again c' => exact ⟨h'.1, h'.2 (Γ.goto c') p' rfl (hΓ.goto c') hG⟩
theorem codeS_of_any {c : Code} {R : Flow → Shared → Prop} (h : codeAny M A c (okFin R) s) : codeS M A c R s := fun Γ p hc hΓ _ => h Γ p hc hΓ
end

/-- what the head asks: the walk of the call, from the one context that is -/
abbrev WalkS (q : Program) (loose : List Str) (XP : (Str → Option Value) → Heap → Prop) (YP : World → Heap → Prop) (r : RowW) (d : DefRec) (kwd : List (Str × Expr)) (run : Value → List Value → Sem Value) : Prop :=
  ∀ (w : World) (s₀ s₁ : Shared) (mg mb : Str → Option Value), Ground q loose r.records XP w s₀ mg mb s₁.heap → YP w s₁.heap → ∀ (a : Addr) (o : Obj) (pm cd doc dV kV : Value), s₁.heap.get? a = some o →
    o.data = .func { docDef d.name d.params d.body d.scope pm cd doc with defaults := dV, kwdefaults := kV } → s₁.heap.CodeRec cd d.name → Dflts mg s₁.heap d.params kwd dV kV → mg d.name = some (.ref a) → s₁.gens = #[] →
    ∀ (args : List WData) (vals : List Value) (as : List Addr), r.claim.pre args = true → WData.layableAll args = true → ReadsAllW r.records (classAt s₀.heap) s₁.heap vals args as → WellAll w.params s₁.heap vals args → (∀ a ∈ as, (a == sysModules) = false) →
      wpS (model r.prog w) callerA (run (.ref a) vals) (fun v s' => GoodWG r.claim (classAt s₀.heap) (ExcName.means s₀.heap) args s₁ (.ok (.ret v)) s') s₁

theorem caller_good : GoodC ⟨.builtin "claim.caller" {}, none, none, [], none⟩ := ⟨by decide +kernel, fun _ h => nomatch h⟩

theorem thread_ends_S {prog : Program} {w : World} {t : Sem Fin} {s : Shared} {R : Result → Shared → Prop} (hreg : s.asleep)
    (h : wpS (model prog w) callerA t (fun fin s' => ∃ f, fin = .done f ∧ (R (.ok f) s' ∧ leftWithCleanup s'.gens = false)) s) :
    ∃ n r s' s'', runN (denote table) prog w n s ⟨t, .builtin "claim.caller" {}, default, []⟩ = .halted (outcomeOf r) s' ∧
      schedN (denote table) prog w n (.single s ⟨t, .builtin "claim.caller" {}, default, []⟩) = .halted (outcomeOf r) s' ∧ s'.forget = s''.forget ∧ R r s'' := by
  have h1 : Sem.wp (model prog w) ⟨.builtin "claim.caller" {}, none, none, [], none⟩ t (Sem.finPost (model prog w) ⟨.builtin "claim.caller" {}, none, none, [], none⟩ fun r s' => R r s' ∧ leftWithCleanup s'.gens = false)
      (fun e _ s' => R (.error e) s' ∧ leftWithCleanup s'.gens = false) default s :=
    Sem.wp_mono (post := fun fin _ s' => ∃ f, fin = .done f ∧ (R (.ok f) s' ∧ leftWithCleanup s'.gens = false)) (exc := fun _ _ _ => False) _ _ t (fun fin p' s' h' => by
      obtain ⟨f, rfl, hf⟩ := h'
      exact hf) (fun _ _ _ h' => h'.elim) _ _ (h _ default caller_in caller_good)
  obtain ⟨n, r, s₁, s₂, hs, hn, hfo, hR⟩ := wp_halts_full (M := model prog w) (R := R) hreg h1
  exact ⟨n, r, s₂, s₁, hn, hs, hfo, hR⟩

theorem callFrom_S {c : ClaimW} {tree : List Value → Sem Fin} {w : World} {s : Shared} {free : Addr → Prop} {gens : Prop} {kept : Heap → Prop} (hz : s.asleep) (hgens : s.gens = #[])
    (hspec : ∀ args, c.pre args = true → WData.layableAll args = true → ∀ ord : List DictEntry → List DictEntry, (∀ l, (ord l).Perm l) →
      ∃ vs s₁, layAllW c.records (classAt s.heap) w.params ord args s = some (vs, s₁) ∧
        wpS (model c.prog w) callerA (tree vs) (fun fin s' => ∃ f, fin = .done f ∧ (c.Ends s args vs s₁ (.ok f) s' ∧ s'.os = s.os ∧ AllBare s'.gens ∧ kept s'.heap)) s₁) :
    c.CallFrom (fun vs => ⟨tree vs, .builtin "claim.caller" {}, default, []⟩) w free gens kept s := by
  intro args hpre hlay ord hord
  obtain ⟨vs, s₁, hlaid, hcode⟩ := hspec args hpre hlay ord hord
  have hal := layAllW_rest _ _ _ hlaid
  obtain ⟨k, r, s', s'', hrun, hsched, hfo, hcase, hos, hkp⟩ := thread_ends_S (prog := c.prog) (w := w) (t := tree vs) (s := s₁)
    (R := fun r s' => c.Ends s args vs s₁ r s' ∧ s'.os = s.os ∧ kept s'.heap) (Shared.asleep_of_life hal.2.2.2 hz)
    (wpS_mono hcode (by
      rintro fin s' ⟨f, e, h1, h2, h3, h4⟩
      exact ⟨f, e, ⟨h1, h2, h4⟩, leftWithCleanup_false_of_bare h3⟩))
  obtain ⟨eh, _, _, eo, _⟩ := Shared.forget_eq hfo
  have hcase := hcase.congr eh
  have hkp : kept s'.heap := by rw [eh]; exact hkp
  rw [← eo] at hos
  have hlife : s'.heap.life = s.heap.life := (runN_life _ _ _ hrun).trans hal.2.2.2
  refine ⟨vs, s₁, hlaid, k, _, s', hsched, ?_, (fun _ i x hx => by rw [hgens] at hx; simp at hx), hkp, by rw [hlife], Shared.rest_eq hos⟩
  rcases hcase with ⟨v, rfl, d1, d2, d3, d4, d5⟩ | ⟨e, ob, cls, rfl, d1, d2, d3, d4, d5⟩
  · exact .inl ⟨v, rfl, d1, d2, d3, fun b o y _ => d4 b o y, d5⟩
  · exact .inr ⟨e, ob, cls, rfl, d1, d2, d3, d4, fun b o y _ => d5 b o y⟩

/-- the head over the one context that is: the library's own road, with the narrower modality -/
theorem holdsS {r : OpenRow} {q : Program} {loose : List Str} {Xt : Shared → Bool} {XP : (Str → Option Value) → Heap → Prop} {α : Type} {Yf : Shared → α} {Ya : World → α} {YP : World → Heap → Prop} {d : DefRec} {kwd : List (Str × Expr)} {N : Nat}
    (left : LeftO r.prog q loose Xt Yf Ya N) (hY : ∀ w s, Yf s = Ya w → YP w s.heap) (hYk : ∀ w h h', YP w h → (∀ b o, h.get? b = some o → h'.get? b = some o) → YP w h')
    (hX : ∀ s, Xt s = true → XP (s.heap.nsMap mainGlobals) s.heap) (hXk : ∀ mg h h', XP mg h → (∀ b o, h.get? b = some o → h'.get? b = some o) → XP mg h')
    (hdef : defOf q r.name = some (d, kwd)) (hp : r.prog.theDef r.name = some (d.params, d.body, d.scope)) (hk : kwWritten? d.params.kwonlyargs d.params.kw_defaults = some kwd) (hRf : ∀ s, Xt s = true → RecFacts r.records s.heap) (hwr : (!r.writes || r.records.isEmpty) = true)
    (k1 : r.wellSaid = true) (ok : (chainsOk q && opensWell r.prog && (frees r.toRowW && r.within.isEmpty)) = true) (hb : r.prog.bare) (hw : r.toRowW.promised)
    (call : WalkS q loose XP YP r.toRowW d kwd fun f vs => PySem.call f vs) : r.Holds := by
  refine ⟨k1, hw, ?_⟩
  obtain ⟨ok, k5⟩ := Bool.and_eq_true_iff.mp ok
  obtain ⟨hch, o1⟩ := Bool.and_eq_true_iff.mp ok
  obtain ⟨k5, k6⟩ := Bool.and_eq_true_iff.mp k5
  obtain ⟨hsame, hu, ha, hap, hm⟩ := frees_parts k5
  refine ⟨⟨hb, o1, by show r.makers.map _ = []; rw [hm]; rfl⟩, hw.witness, fun w => ⟨(left.behind hX hch w).1, fun s' hs' => ?_⟩⟩
  obtain ⟨s₀, hf, hg0, s, hT, hz, hgens, hg, G00, y⟩ := (left.behind (XP := fun mg h => XP mg h ∧ RecFacts r.records h) (fun s hs => ⟨hX s hs, hRf s hs⟩) hch w).2 s' hs'
  have G0 : Ground q loose [] XP w s (s.heap.nsMap mainGlobals) (s.heap.nsMap builtinsNs) s.heap := ⟨G00.T, G00.B, G00.D, G00.TE, G00.TD, G00.W, G00.X.1, G00.cls, G00.has, G00.apart, G00.once, G00.K⟩
  have RF := G00.X.2
  have hT' := hT
  refine ⟨s₀, hf, hg0, s, hT, ?_, RF.1, RF.2.1, ?_⟩
  · intro n hn
    obtain rfl : n = r.name := by split at hn <;> simp_all
    exact pinned_of_view hg G0 hdef hp hk
  have hgens : s.gens = #[] := Array.eq_empty_of_size_eq_zero (beq_iff_eq.mp hgens)
  have G : Ground q loose r.records XP w s _ _ s.heap := RF.ground G0
  refine callFrom_S (c := r.toRowW.claim) hz hgens fun args hpre hlay ord hord => ?_
  obtain ⟨⟨vs, s₁⟩, hlaid⟩ := Option.isSome_iff_exists.mp (layAllW_isSome (P := w.params) (ord := ord) G.has args r.args s (pre_splitW hpre).1)
  have keeps := layAllW_keeps _ _ _ hlaid
  have hal := layAllW_rest _ _ _ hlaid
  obtain ⟨as, hrd, hin, hold⟩ := reads_layAllW hord _ _ _ hlaid hlay s₁.heap (fun _ _ e => e)
  have L : Laid r.records w s s₁ args vs as := ⟨⟨ord, hord, hlaid⟩, hrd, hin, hold, keeps, hal.1.trans hgens, hal.2.2.1⟩
  have G₁ := G.keeps hXk keeps
  obtain ⟨a, o, pm, cd, doc, dV, kV, h1, h2, h3, h4, h5⟩ := G₁.fn hdef
  have h := call w s s₁ _ _ G₁ (hYk _ _ _ (hY w s y) keeps) a o pm cd doc dV kV h2 h3 h4 h5 (defOf_name hdef ▸ h1) L.gens args vs as hpre hlay L.reads L.well (L.low G.low)
  have hi := ident_freeW hu ha hap
  have hwi : r.claim.within = [] := List.isEmpty_iff.mp k6
  refine ⟨vs, s₁, hlaid, wpS_seq (wpAny_nsGet G₁.T.g ?_)⟩
  rw [h1]
  refine wpS_bind (wpS_mono h fun v s' g => wpS_pure ⟨_, rfl, ?_⟩)
  have z := g.laid (c := r.claim) hsame hwi hi L
  exact ⟨z.1, z.2.1, z.2.2, fun q => ⟨namesKept_of hT' hg r.keeps keeps g.2.1.old, noTable hwr q⟩⟩
end

section
noncomputable def viewBody : List Stmt := [0, 2, 3, 5, 6, 7, 8, 9, 10, 11, 14, 15, 16, 17, 18, 20, 21, 22, 23, 24].filterMap (fun i => PySem.Challenge.pw_pb0186_01.main.body[i]?)
/-- the statements that stand: all but the names' own rows and the one def with a default that is no literal -/
noncomputable def theView : Program := { PySem.Challenge.pw_pb0186_01 with main := { PySem.Challenge.pw_pb0186_01.main with body := viewBody } }
noncomputable def runTop (w : World) (s : Shared) : Option Shared := topFrom treeTable PySem.Challenge.pw_pb0186_01 w 4340 s
noncomputable def xTop (s : Shared) : Bool := xlAt theView [] s && recOk (RowW.records (OpenRow.toRowW (OpenLaw.row PySem.Challenge.rw_pb0186_01))) s
noncomputable def looksTop (s : Shared) := openSeen theView [Str.ofString "ShapeError", Str.ofString "laid"] (importedModules PySem.Challenge.pw_pb0186_01.main.body) xTop true s
noncomputable def goodTop := openGood theView [Str.ofString "ShapeError", Str.ofString "laid"]
/-- the looks at what the top leaves: one kernel check of its run, over the library's fast twins -/
theorem looks_ok : ∀ (w : World) (os : OsState), (runTop w ⟨boot_heap w.params, Array.mk [], boot_drawn, boot_toks, os⟩).map looksTop = some goodTop := fun w os => by
  unfold runTop looksTop topFrom
  rw [show @topRun = _ from PySem.W.Fast.te14082659384304107361, show treeTable = _ from PySem.W.Fast.te14364793385576792824, show @openSeen = _ from PySem.W.Fast.te4187177175401517315]
  kernel_rfl
theorem left_of {α : Type} {Yf : Shared → α} {Ya : World → α}
    (h : ∀ (w : World) (os : OsState), (runTop w ⟨boot_heap w.params, Array.mk [], boot_drawn, boot_toks, os⟩).map Yf = some (Ya w)) :
    LeftO PySem.Challenge.pw_pb0186_01 theView [Str.ofString "ShapeError", Str.ofString "laid"] xTop Yf Ya 4340 := fun w => by
  obtain ⟨⟨h0, gs, d, k, os⟩, e, e'⟩ := Option.map_eq_some_iff.mp (boot_open (p := PySem.Challenge.pw_pb0186_01) (N := 4340) (by rfl) (by decide) (fun s => rfl) w)
  obtain ⟨rfl, rfl, rfl, rfl⟩ : h0 = boot_heap w.params ∧ gs = Array.mk [] ∧ d = boot_drawn ∧ k = boot_toks := by simpa using e'
  obtain ⟨s1, e1, e2⟩ := Option.map_eq_some_iff.mp (h w os)
  have z := looks_ok w os
  rw [e1] at z
  have z2 : looksTop s1 = goodTop := Option.some.inj z
  have e3 : topFrom treeTable PySem.Challenge.pw_pb0186_01 w 4340 ⟨boot_heap w.params, Array.mk [], boot_drawn, boot_toks, os⟩ = some s1 := e1
  unfold openEnds
  rw [e, Option.bind_some, e3]
  exact congrArg some (Prod.ext z2 e2)
local macro_rules | `(tactic| o_head $H) => `(tactic| (
  refine Mine.holdsS (q := Mine.theView) (loose := [Str.ofString "ShapeError", Str.ofString "laid"]) (Xt := xTop) (XP := XL Mine.theView []) (Yf := Hook.obs $H) (Ya := Hook.val $H) (YP := Hook.says $H) (N := 4340) ?hl (Hook.of $H) (Hook.keeps $H)
    (fun s e => xl_of s (Bool.and_eq_true_iff.mp e).1) XL.keeps (by rfl) (by rfl) (by rfl) (fun s e => recFacts_of (Bool.and_eq_true_iff.mp e).2) (by rfl) (by assumption) (by decide +kernel) ⟨rfl, rfl, rfl, rfl, rfl, by decide +kernel⟩ ?hw ?hc
  (case hl => refine left_of (fun w os => ?_)
              unfold runTop topFrom
              rw [show @topRun = _ from PySem.W.Fast.te14082659384304107361, show treeTable = _ from PySem.W.Fast.te14364793385576792824]
              kernel_rfl)))
open_top hd for PySem.Challenge.rw_pb0186_01
end

theorem top_off : True := by
  w_top off
  trivial

section
-- bits
theorem nat_or8 (a y : Nat) (hy : y < 256) : a * 256 ||| y = a * 256 + y := by
  have h := Nat.shiftLeft_add_eq_or_of_lt (i := 8) (b := y) (by simpa using hy) a
  rw [Nat.shiftLeft_eq] at h
  exact h.symm
theorem bitOr8 {a y : Int} (ha : 0 ≤ a) (hy : 0 ≤ y) (hy2 : y < 256) : Builtin.bitOr (a * 256) y = a * 256 + y := by
  rw [bitOr_and, bitAnd_pp (by omega) hy]
  have h := nat_or_add_and (a * 256).toNat y.toNat
  have e : (a * 256).toNat = a.toNat * 256 := by omega
  have h2 := nat_or8 a.toNat y.toNat (by omega)
  rw [e, h2] at h
  rw [e]
  omega
section
variable {prog : Program} {w : World} {A : Around} {E : Value → Shared → Prop} {s : Shared} {a y n : Int} {t u : Tok} {Q : Value → Shared → Prop}
theorem sh8 (h0 : 0 ≤ a) (h1 : a < 4294967296) (h : Q (.int (a * 256) s.toks) { s with toks := s.toks + 1 }) : wpAny (model prog w) A (binaryOp .LShift (.int a t) (.int 8 u)) Q E s :=
  lshift_int_small (by decide) (by decide) (by omega) h
theorem or8 (h0 : 0 ≤ a) (h1 : 0 ≤ y) (h2 : y < 256) (h : Q (.int (a * 256 + y) s.toks) { s with toks := s.toks + 1 }) : wpAny (model prog w) A (binaryOp .BitOr (.int (a * 256) t) (.int y u)) Q E s :=
  or_int (by rw [bitOr8 h0 h1 h2]; exact h)
end
-- the end of a turn of an unrolled loop, over a ledger that is not written out
theorem unr_end {h₀ : Heap} {L I : Addr} {it : Obj} {rest : (Str → Option Value) → List (Addr × Obj) → Prop} {s₁ : Shared} {h' : Heap} {tk : Nat} {m' : Str → Option Value} {news : List (Addr × Obj)} (F : Fr h₀ L h' m') (N : News h₀ L h' ((I, it) :: news))
    (hl : ∀ p ∈ news, p.1 < I) (r : rest m' news) : UnrEnd h₀ L s₁ I it rest { s₁ with heap := h', toks := tk } :=
  UnrEnd.intro F N news (fun _ hp => hp) (fun p hp e => absurd (hl p hp) (by rw [e]; exact Nat.lt_irrefl _)) r
section
variable {prog : Program} {w : World} {A : Around} {E : Value → Shared → Prop} {s : Shared} {value slice : PySem.Expr} {b : Array UInt8} {t : Tok} {h₀ : Heap} {L : Addr} {m : PySem.Str → Option Value} {news : List (Addr × Obj)} {Q : Value → Shared → Prop} {pre post : List Int} {x y i j : Int} {ti tj : Tok}
theorem slice_two (hF : Fr h₀ L s.heap m) (hN : News h₀ L s.heap news) (hk : KBw.bInts b = pre ++ x :: y :: post) (hi : i = pre.length) (hj : j = i + 2) (hz : pre.length + post.length ≤ 900)
    (h : ∀ b' h' t' k, Fr h₀ L h' m → News h₀ L h' news → KBw.bInts b' = [x, y] → Q (.bytes b' t') { s with heap := h', toks := k })
    (hs : subscripted slice false (.bytes b t) (.ref s.heap.objs.size) = operate [.ref s.heap.objs.size, .bytes b t] (getItem (.bytes b t) (.ref s.heap.objs.size)) := by with_unfolding_all rfl)
    (ht : ∀ r, letTemporaryGo value (.bytes b t) r = pure () := by intro _; with_unfolding_all rfl) :
    wpAny (model prog w) A (subscriptTail value slice (.bytes b t) (.ref s.heap.objs.size)) Q E { s with heap := s.heap.push { cls := .type "slice", data := .fields #[.int i ti, .int j tj, .none] } } := by
  refine KBc.slice_K hF hN hk (.int i ti) (.int j tj) (by simp only [List.length_append, List.length_cons]; omega) (fun h' t' k F' N' e => h _ h' t' k F' N' ?_) hs ht
  rw [e]
  subst hi
  subst hj
  have e1 : (pre.length : Int) + 2 = ((pre.length + 2 : Nat) : Int) := by omega
  simp only [Option.elim]
  rw [e1, PySem.clipAt_nat, PySem.clipAt_nat]
  have h1 : min pre.length (pre ++ x :: y :: post).length = pre.length := by simp
  have h2 : min (pre.length + 2) (pre ++ x :: y :: post).length = pre.length + 2 := by simp
  rw [h1, h2]
  simp
end
end

section
open PySem.Calls PySem.Spec
open LCg
theorem rot2 {h₀ h : Heap} {L : Addr} {a b : Addr × Obj} {r : List (Addr × Obj)} (N : News h₀ L h (a :: b :: r)) : News h₀ L h (b :: a :: r) := fun p hp => N p (by
  simp only [List.mem_cons] at hp ⊢
  rcases hp with h | h | h <;> simp [h])
theorem rot3 {h₀ h : Heap} {L : Addr} {a b c : Addr × Obj} {r : List (Addr × Obj)} (N : News h₀ L h (a :: b :: c :: r)) : News h₀ L h (c :: a :: b :: r) := fun p hp => N p (by
  simp only [List.mem_cons] at hp ⊢
  rcases hp with h | h | h | h <;> simp [h])
theorem rot4 {h₀ h : Heap} {L : Addr} {a b c d : Addr × Obj} {r : List (Addr × Obj)} (N : News h₀ L h (a :: b :: c :: d :: r)) : News h₀ L h (d :: a :: b :: c :: r) := fun p hp => N p (by
  simp only [List.mem_cons] at hp ⊢
  rcases hp with h | h | h | h | h <;> simp [h])
section
variable {prog : Program} {w : World} {A : Around} {E : Value → Shared → Prop} {s : Shared} {h₀ : Heap} {L : Addr} {m : Str → Option Value} {env : Env}

/-- a source of a comprehension: any walk whose one written object is its iterator -/
def CompAt (prog : Program) (w : World) (A : Around) (h₀ : Heap) (L : Addr) (m : Str → Option Value) (env : Env) (elt : Expr) (x : Str) (scope : Scope) (cl : List (Str × Addr)) (Q : Value → Shared → Prop) (it : Value) (s₂ : Shared) : Prop :=
  ∃ I fp n P St S news, it = .ref I ∧ Walks prog w A I fp [I] n P St ∧ n ≤ sizeLine ∧ (∀ i h, St i h → ∃ o, h.get? I = some o) ∧
    (∀ i h h' o nw, St i h → h.get? I = some o → h'.get? I = some o → (∀ b o, h₀.get? b = some o → h'.get? b = some o) → News h₀ L h' nw → S nw → St i h') ∧
    St 0 s₂.heap ∧ (∀ b ∈ fp, b < s₂.heap.objs.size) ∧ Fr h₀ L s₂.heap m ∧ News h₀ L s₂.heap news ∧ L ≠ I ∧ h₀.get? I = none ∧ (∀ p ∈ news, p.1 ≠ I) ∧ S news ∧
    CompRest prog w A h₀ L m env elt x scope cl s₂ S P (FinE h₀ L m s₂ Q) n 0 [] news

theorem ListComp_W {elt iter : Expr} {x : Str} {px : Pos} {scope : Scope} {cl : List (Str × Addr)} {pos : Pos} {Q : Value → Shared → Prop} (_F : Fr h₀ L s.heap m)
    (hclos : closureFor scope env = pure cl) (hcell : ∀ y ∈ scope.names, y.2 ≠ .cell) (hkind : scope.kind = .function)
    (hnames : ∀ y ∈ scope.names, y.2 = .local → scope.names.lookup y.1 = some .local) (hx : scope.names.lookup x = some .local)
    (h : wpAny (model prog w) A (eval iter env) (fun xv s₁ => wpAny (model prog w) A (pyIter xv) (CompAt prog w A h₀ L m env elt x scope cl Q) E s₁) E s)
    (hs : ∀ x, foldedSetIterable iter env x = pure x := by intro _; rfl) :
    wpAny (model prog w) A (eval (.ListComp elt [⟨.Name x px, iter, [], 0⟩] scope pos) env) Q E s := by
  rw [eval_ListComp]
  refine wpAny_comprehension_free (use := none) rfl hs hclos hkind hnames (wpAny_mono h (fun xv s₁ h₁ => wpAny_mono h₁ (fun it s₂ h₂ => ?_) fun _ _ e => e) fun _ _ e => e)
  obtain ⟨I, fp, n, P, St, S, news, rfl, W, hsz, hIo, hSt, hst, hfp, F, N, hLI, hI, off, hS, R⟩ := h₂
  refine block_U W hsz hIo hSt hcell hkind hx hst hfp F N hLI hI off hS R ?_
  intro D C h' tk m' ys news' F' N' o1 hn hC₀ hD₀ hCL hDL hCD offC fin
  refine ⟨m', hn, fun h'' hs'' => fin D h'' tk (F'.change hs'' hCL hC₀) (fun p hp => ?_) o1⟩
  refine ⟨hs''.extBut _ _ ?_ (N' p hp).1, (N' p hp).2⟩
  rcases List.mem_cons.mp hp with rfl | hp
  · exact Ne.symm hCD
  · exact offC p hp

/-- the turns of a comprehension by an invariant -/
theorem comp_inv {elt : Expr} {x : Str} {scope : Scope} {cl : List (Str × Addr)} {S : List (Addr × Obj) → Prop} {P : Nat → Value → Prop} {Fin : List Value → List (Addr × Obj) → Prop} {n : Nat}
    (J : Nat → List Value → List (Addr × Obj) → Prop)
    (turn : ∀ i ys news v I oI C oC D m₂ h tk (E' : Value → Shared → Prop), i < n → J i ys news → P i v → NsObj oC m₂ → m₂ x = some v → Fr h₀ L h m → News h₀ L h ((I, oI) :: (C, oC) :: (D, lst ys) :: news) → Off3 I C D news → ((@Ne Nat I C) ∧ (@Ne Nat I D) ∧ (@Ne Nat C D)) →
      wpAny (model prog w) A (eval elt (compEnvC scope cl C env)) (CompEnd h₀ L m { s with heap := h, toks := tk } I oI C oC D (lst ys) S (fun y news' => J (i + 1) (ys ++ [y]) news')) E' { s with heap := h, toks := tk })
    (done : ∀ ys news, J n ys news → Fin ys news) : ∀ (k i : Nat) (ys : List Value) (news : List (Addr × Obj)), i + k = n → J i ys news → CompRest prog w A h₀ L m env elt x scope cl s S P Fin k i ys news
  | 0, i, ys, news, e, hJ => CompRest.zero (done ys news (by rw [← e]; exact hJ))
  | k + 1, i, ys, news, e, hJ => CompRest.succ fun v I oI C oC D m₂ h tk E' hP hC hx F N off ne =>
      wpAny_mono (turn i ys news v I oI C oC D m₂ h tk E' (by omega) hJ hP hC hx F N off ne) (fun y s₂ h₂ => by
        obtain ⟨h', tk', news', e', F', N', off', hS', hJ'⟩ := h₂
        exact ⟨h', tk', news', e', F', N', off', hS', comp_inv J turn done k (i + 1) (ys ++ [y]) news' (by omega) hJ'⟩) fun _ _ e => e

/-- a range by any step as the source -/
theorem comp_range {elt : Expr} {x : Str} {scope : Scope} {cl : List (Str × Addr)} {Q : Value → Shared → Prop} {r : Addr} {a b c : Int} {t u v : Tok} {n : Nat} {news : List (Addr × Obj)}
    (hh : A.handled = none) (F : Fr h₀ L s.heap m) (N : News h₀ L s.heap news) (hr : IsRange s.heap r a b c t u v) (hsm : Builtin.Range.small a b c = true) (hn : Builtin.Range.rangeSize a b c = ((n : Nat) : Int)) (hsz : n ≤ sizeLine)
    (h : ∀ g, CompRest prog w A h₀ L m env elt x scope cl { s with heap := g } (fun _ => True) (fun i v => ∃ t, v = .int (a + (i : Int) * c) t) (FinE h₀ L m { s with heap := g } Q) n 0 [] news) :
    wpAny (model prog w) A (pyIter (.ref r)) (CompAt prog w A h₀ L m env elt x scope cl Q) E s := by
  refine wpAny_pyIter_range hr hsm ?_
  refine ⟨s.heap.objs.size, _, n, _, _, fun _ => True, news, rfl, Walks.range hh s.heap.objs.size a c n, hsz, fun i h st => ⟨_, st⟩, ?_, ?_, ?_, F.push _, N.grown fun _ _ e => Heap.get?_push_of_some _ e, Nat.ne_of_lt F.ns.lt, next_is_new F, fun p hp => Nat.ne_of_lt (Heap.lt_size (N p hp).1), trivial, h _⟩
  · intro i h h' o nw st e e' _ _ _
    have st' : h.get? s.heap.objs.size = some _ := st
    show h'.get? s.heap.objs.size = some _
    rw [e', ← e]; exact st'
  · show IsRangeIter _ _ _ _ _
    rw [hn]; simpa using Heap.get?_push_size _ rfl
  · intro b hb
    rw [List.mem_singleton.mp hb]
    show s.heap.objs.size < (s.heap.push _).objs.size
    rw [Heap.size_push]; exact Nat.lt_succ_self _

/-- a list of the ledger as the source -/
theorem comp_list {elt : Expr} {x : Str} {scope : Scope} {cl : List (Str × Addr)} {Q : Value → Shared → Prop} {ax : Addr} {its : Array Value} {k : Nat} {news : List (Addr × Obj)}
    (hh : A.handled = none) (F : Fr h₀ L s.heap m) (N : News h₀ L s.heap news) (hm : (ax, ({ cls := .type "list", data := .seq its k } : Obj)) ∈ news) (hsz : its.size ≤ sizeLine)
    (h : ∀ g, CompRest prog w A h₀ L m env elt x scope cl { s with heap := g } (SrcAt h₀ ax its) (fun i v => its[i]? = some v) (FinE h₀ L m { s with heap := g } Q) its.size 0 [] news) :
    wpAny (model prog w) A (pyIter (.ref ax)) (CompAt prog w A h₀ L m env elt x scope cl Q) E s := by
  have hS : SrcAt h₀ ax its news := .inr ⟨_, hm, rfl, _, rfl⟩
  have hl := hS.list F.keep N
  have hlt : ax < s.heap.objs.size := by obtain ⟨_, e, _⟩ := hl; exact Heap.lt_size e
  refine wpAny_pyIter_list hl ?_
  have up : ∀ b o, s.heap.get? b = some o → (s.heap.push { cls := .type "list_iterator", data := .fields #[.ref ax, .int 0 0] }).get? b = some o := fun b o e => Heap.get?_push_of_some _ e
  refine ⟨s.heap.objs.size, _, its.size, _, _, SrcAt h₀ ax its, news, rfl, Walks.list hh s.heap.objs.size ax (Nat.ne_of_lt hlt) its, hsz, fun i h st => ?_, list_st, ⟨⟨_, Heap.get?_push_size _ rfl, rfl, rfl⟩, hl.push _⟩, ?_, F.keeps up, N.grown up, Nat.ne_of_lt F.ns.lt, next_is_new F, fun p hp => Nat.ne_of_lt (Heap.lt_size (N p hp).1), hS, h _⟩
  · obtain ⟨o, e, _⟩ := st.1; exact ⟨o, e⟩
  · intro b hb
    show b < (s.heap.push _).objs.size
    rw [Heap.size_push]
    rcases List.mem_cons.mp hb with rfl | hb
    · exact Nat.lt_succ_self _
    · rw [List.mem_singleton.mp hb]; exact Nat.lt_succ_of_lt hlt
end
end

section
open PySem.Calls PySem.Spec
section
variable {prog : Program} {w : World} {A : Around} {s : Shared} {R : Flow → Shared → Prop}

theorem codeS_func {body : List Stmt} {env : Env} (h : wpS (model prog w) (A.deeper env) (execs body env) (fun f s' => R (.ret (match f with | .ret v => v | _ => .none)) s') s) : codeS (model prog w) A (.func body env) R s := by
  refine codeS_of_tree rfl ?_
  show wpS _ (A.deeper env) (do point; match ← (execs body env).onRaise (leaving env) with | .ret v => ret v | _ => ret .none) _ s
  refine wpS_seq (wpAny_point (wpS_bind (wpS_onRaise (wpS_mono h fun f s' h' => ?_))))
  cases f <;> exact wpS_pure h'

theorem codeS_call_def {a : Addr} {o : Obj} {fd : FuncData} {body : List Stmt} {args : Args} {binds : List (Str × Value)}
    (hroom : A.depth < recursionLimit) (ho : s.heap.get? a = some o) (hdata : o.data = .func fd) (hlim : s.heap.NoLimit) (hcd : s.heap.CodeRec fd.code fd.qualname)
    (hbody : fd.body = .stmts body) (hbind : BindsTo s fd args binds)
    (hcell : ∀ x ∈ fd.scope.names, x.2 ≠ .cell) (hloc : ∀ x ∈ binds, fd.scope.names.lookup x.1 = some .local)
    (h : ∀ h₀, h₀.Ns s.heap.objs.size (fun x => binds.reverse.lookup x) → (∀ b o, s.heap.get? b = some o → h₀.get? b = some o) →
      wpS (model prog w) (A.deeper (callEnv fd s.heap.objs.size a)) (execs body (callEnv fd s.heap.objs.size a)) (fun f s' => R (.ret (match f with | .ret v => v | _ => .none)) s')
        { s with heap := h₀, toks := s.toks + binds.length })
    (hco : fd.scope.isCoroutine = false := by rfl) (hgen : fd.scope.isGenerator = false := by rfl) (hk : fd.scope.kind = .function := by rfl) :
    codeS (model prog w) A (.call (.ref a) args) R s := by
  refine codeS_of_tree rfl ?_
  show wpS _ A.in1 (callAny (.ref a) args) _ s
  simp only [callAny]
  refine wpS_seq (wpAny_load ho ?_)
  obtain ⟨c, oc, vs, tq, hc, hoc, hdc, hq⟩ := hcd
  simp only [hdata, callFunction, hco, hgen, hbody, hc]
  refine wpS_seq (m := field (.ref c) 1) (wpAny_field hoc hdc hq (wpS_bind (wpS_pure ?_)))
  refine wpS_seq (hbind _ _ _ _ (wpS_seq (wpAny_newFunctionEnv hcell hloc (fun h₁ hns₁ hsb₁ => ?_) hk)))
  refine wpS_seq (wpAny_enterFrame (hlim.fresh _ hsb₁) hroom (wpS_pure ⟨rfl, ?_⟩))
  have hx := h h₁ hns₁ fun b o e => hsb₁.extBut b o (Nat.ne_of_lt (Heap.lt_size e)) (Heap.get?_push_of_some _ e)
  rw [← hc]
  exact codeS_func hx
end

section
variable {prog : Program} {w : World} {A₀ A : Around} {s : Shared} {base h₀ : Heap} {outer : List Env} {L : Addr} {m mg mb : Str → Option Value} {env : Env} {news : List (Addr × Obj)} {K : Frag} {p : Program} {loose : List Str} {mean : ExcName → Option Value}
  {R : Flow → Shared → Prop} {name qual : Str} {params : Arguments} {body : List Stmt} {scope : Scope} {dV kV doc pm cdv ct oc : Value} {an od : Option Addr} {osl : Array (Option Value)} {f : Addr} {args : Args} {binds : List (Str × Value)}

theorem codeS_def (B : Below A₀ base outer h₀) (F : Fr h₀ L s.heap m) (X₀ : K.In h₀) (N : News h₀ L s.heap news) (T : Top p loose mean mg mb h₀) (hA : A.frames = some (env :: outer)) (hf : env.frame = some L) (hke : env.scope.kind = .function)
    (ho : K.lookup f = some ⟨oc, od, .func (fnOf name qual params body scope dV kV doc pm an cdv ct), osl⟩) (hcd : codeIn K cdv qual = true) (hroom : A.depth < recursionLimit)
    (hbind : BindsTo s (fnOf name qual params body scope dV kV doc pm an cdv ct) args binds) (hloc : ∀ y ∈ binds, scope.names.lookup y.1 = some .local)
    (h : ∀ g L' h₁, Fr h₀ L g m → Fr g L' h₁ (fun y => binds.reverse.lookup y) → News g L' h₁ news → Below A base (env :: outer) g → K.In g → Top p loose mean mg mb g →
      wpS (model prog w) (A.deeper (envOf qual scope L' f cdv)) (execs body (envOf qual scope L' f cdv))
        (fun fl s' => LeaveK h₀ L m g (okFin R) (match fl with | .ret v => v | _ => .none) s') { s with heap := h₁, toks := s.toks + binds.length })
    (hco : scope.isCoroutine = false) (hgen : scope.isGenerator = false) (hk : scope.kind = .function)
    (hcell : ∀ x ∈ scope.names, x.2 ≠ .cell) : codeS (model prog w) A (.call (.ref f) args) R s := by
  obtain ⟨FG, BG, st, lv⟩ := groundX (R := okFin R) B F N hA hf hke
  refine codeS_call_def (fd := fnX name qual params body scope [] dV kV doc pm an cdv ct) (body := body) (binds := binds) hroom ((X₀.keeps F.keep) _ _ ho) rfl (T.nolimit.keeps F.keep) (codeRec_of (X₀.keeps F.keep) hcd) rfl hbind hcell hloc (fun h₁ hns hk₁ => ?_) hco hgen hk
  exact wpS_mono (h _ s.heap.objs.size h₁ FG ⟨hns, fun b o e => hk₁ b o (of_hideAll _ e), Nat.le_of_eq (hideAll_size _ _)⟩
    (fun p hp => ⟨hk₁ _ _ (N p hp).1, Nat.ne_of_lt (Heap.lt_size (N p hp).1), hideAll_none _ (List.mem_map_of_mem hp)⟩) BG (X₀.keeps st) (T.keeps st)) (fun fl s' hl => lv _ _ hl)
end

section
variable {M : Model} {A : Around} {s : Shared} {env : Env}

theorem execsS_nil {Q : Flow → Shared → Prop} (h : Q .next s) : wpS M A (execs [] env) Q s := fun _ _ _ _ => h
theorem execsS_cons {st : Stmt} {rest : List Stmt} {Q : Flow → Shared → Prop}
    (h : wpS M A (exec st env) (fun f s' => match f with | .next => wpS M A (execs rest env) Q s' | f => Q f s') s) : wpS M A (execs (st :: rest) env) Q s := fun Γ p hΓ hG => by
  rw [execs_cons, Sem.wp_bind']
  refine Sem.wp_mono M Γ _ (fun f p' s' h' => ?_) (fun _ _ _ h' => h') _ _ (h Γ p hΓ hG)
  cases f <;> first | exact h' Γ p' hΓ hG | exact h'
/-- a statement by the library's walk, the rest here -/
theorem execsS_any {st : Stmt} {rest : List Stmt} {Q : Flow → Shared → Prop}
    (h : wpAny M A (exec st env) (fun f s' => match f with | .next => wpS M A (execs rest env) Q s' | f => Q f s') (fun _ _ => False) s) : wpS M A (execs (st :: rest) env) Q s := execsS_cons (wpS_of_any h)
theorem execS_Expr {e : Expr} {pos : Pos} {Q : Flow → Shared → Prop} (h : wpS M A (eval e env) (fun v s' => match v with | .ref _ => False | _ => Q .next s') s)
    (hi : interactive env = false := by rfl) (hs : swapsWith e none pos.line env = pure false := by rfl) : wpS M A (exec (.Expr e pos) env) Q s := by
  rw [exec_Expr env e pos hi hs]
  refine wpS_seq (wpAny_standAt (wpS_bind (wpS_mono h fun v s' h' => ?_)))
  have hv : ∀ a, v ≠ .ref a := fun a hva => by subst hva; exact h'
  rw [dropValue_plain hv]
  refine wpS_bind (wpS_pure (wpS_pure ?_))
  cases v <;> first | exact h' | exact (hv _ rfl).elim
theorem execS_Assign_Name {x : Str} {pos' : Pos} {value : Expr} {pos : Pos} {Q : Flow → Shared → Prop}
    (h : wpS M A (eval value env) (fun v s₁ => wpAny M A (storeName env x v) (fun _ => Q .next) (fun _ _ => False) s₁) s)
    (hs : swapsWith value (some (.Name x pos')) pos.line env = pure false := by rfl) : wpS M A (exec (.Assign [.Name x pos'] value pos) env) Q s := fun Γ p hΓ hG => by
  simp only [exec_Assign_Name env x pos' value pos hs, Sem.wp_bind', Sem.wp_cmd_standAt, Sem.wp_bindName, Sem.wp_pure']
  exact Sem.wp_mono M Γ _ (fun v _ s₁ h₁ => h₁ Γ _ hΓ) (fun _ _ _ h' => h') _ _ (h Γ _ hΓ hG)
theorem execS_If {test : Expr} {body orelse : List Stmt} {pos : Pos} {Q : Flow → Shared → Prop}
    (h : wpAny M A (isTrue test env (eval test env)) (fun b s₂ => if b then wpS M A (execs body env) Q s₂ else wpS M A (execs orelse env) Q s₂) (fun _ _ => False) s) :
    wpS M A (exec (.If test body orelse pos) env) Q s := fun Γ p hΓ hG => by
  simp only [exec_If, Sem.wp_bind', Sem.wp_cmd_standAt]
  refine Sem.wp_mono M Γ _ (fun b p₂ s₂ h₂ => ?_) (fun _ _ _ h' => h') _ _ (h Γ _ hΓ)
  cases b <;> exact h₂ Γ p₂ hΓ hG

theorem splicedS_cons {x : Sem Value} {rest : List (Bool × Sem Value)} {Q : List Value → Shared → Prop}
    (h : wpS M A x (fun v s₁ => wpS M A (spliced rest) (fun vs s₂ => Q (v :: vs) s₂) s₁) s) : wpS M A (spliced ((false, x) :: rest)) Q s := by
  rw [spliced]
  refine wpS_bind (wpS_mono h (fun v s₁ h₁ => ?_))
  simp only [Bool.false_eq_true, if_false]
  exact wpS_bind (wpS_pure (wpS_bind (wpS_holding (wpS_mono h₁ (fun vs s₂ h₂ => wpS_pure h₂)))))
theorem splicedS_nil {Q : List Value → Shared → Prop} (h : Q [] s) : wpS M A (spliced []) Q s := wpS_pure h
theorem evalArgsS {f : Value} {x : Sem Value} {rest : List (Bool × Sem Value)} {Q : Args → Shared → Prop}
    (h : wpS M A (spliced ((false, x) :: rest)) (fun vs s' => Q ⟨vs, []⟩ s') s) : wpS M A (evalArgs f true ((false, x) :: rest) []) Q s := by
  unfold evalArgs
  show wpS M A (spliced ((false, x) :: rest) >>= _) Q s
  refine wpS_bind (wpS_mono h (fun vs s' h' => ?_))
  refine wpS_holding ?_
  exact wpS_bind (wpS_pure (wpS_bind (wpS_pure (wpS_pure h'))))

theorem callWithS_builtin {pos : Pos} {id : String} {first : List Value} {args : List (Bool × Sem Value)} {Q : Value → Shared → Prop} (hplain : args.any (·.1) = false)
    (h : wpS M A (evalArgs (.builtin id) true args []) (fun a s₁ => wpS M A (call (.builtin id) (first ++ a.pos) a.kw) Q s₁) s) : wpS M A (callWith pos (.builtin id) first args []) Q s := by
  unfold callWith
  refine wpS_bind (wpS_holding (wpS_mono h fun a s₁ h₁ => wpS_seq (wpAny_standAt ?_)))
  simp only [hplain, List.any_nil, Bool.or_false]
  refine wpS_bind (wpS_pure ?_)
  exact wpS_bind (wpS_mono h₁ fun r s₂ hr => wpS_seq (wpAny_holding (wpAny_point (wpS_pure hr))))
theorem callWithS_type {pos : Pos} {n : String} {args : List (Bool × Sem Value)} {Q : Value → Shared → Prop} (hplain : args.any (·.1) = false)
    (h : wpS M A (evalArgs (.type n) true args []) (fun a s₁ => wpS M A (call (.type n) a.pos a.kw) Q s₁) s) : wpS M A (callWith pos (.type n) [] args []) Q s := by
  unfold callWith
  refine wpS_bind (wpS_holding (wpS_mono h fun a s₁ h₁ => wpS_seq (wpAny_standAt ?_)))
  simp only [hplain, List.any_nil, Bool.or_false]
  refine wpS_bind (wpS_pure ?_)
  exact wpS_bind (wpS_mono h₁ fun r s₂ hr => wpS_seq (wpAny_holding (wpAny_point (wpS_pure hr))))
theorem callWithS_function {pos : Pos} {a : Addr} {o : Obj} {fd : FuncData} {first : List Value} {args : List (Bool × Sem Value)} {Q : Value → Shared → Prop}
    (h : wpS M A (evalArgs (.ref a) true args []) (fun x s₁ => (s₁.heap.get? a = some o ∧ o.data = .func fd) ∧ wpS M A (call (.ref a) (first ++ x.pos) x.kw) Q s₁) s) : wpS M A (callWith pos (.ref a) first args []) Q s := by
  unfold callWith
  refine wpS_bind (wpS_holding (wpS_mono h fun x s₁ h₁ => wpS_seq (wpAny_standAt ?_)))
  have tail : ∀ {t : Sem Value}, wpS M A t Q s₁ → wpS M A (t >>= fun r => holding [r] point >>= fun _ => pure r) Q s₁ :=
    fun ht => wpS_bind (wpS_mono ht fun r s₂ hr => wpS_seq (wpAny_holding (wpAny_point (wpS_pure hr))))
  cases hs : args.any (·.1) <;> simp only [List.any_nil, Bool.or_false] <;>
    refine wpS_bind (m := keeperOf (.ref a)) ?_ <;> unfold keeperOf <;>
    refine wpS_seq (wpAny_load h₁.1.1 ?_) <;> rw [h₁.1.2] <;> refine wpS_pure ?_
  · simp only
    split
    · exact tail h₁.2
    · exact tail (wpS_keep h₁.2)
  · exact tail (wpS_keep h₁.2)

theorem evalS_Call {func : Expr} {args : List Expr} {pos : Pos} {Q : Value → Shared → Prop}
    (h : wpAny M A (eval func env) (fun f s₁ => wpS M A (callWith pos f [] (backTo pos (starEach args env)) []) Q s₁) (fun _ _ => False) s)
    (he : eval (.Call func args [] pos) env = (do callWith pos (← eval func env) [] (backTo pos (starEach args env)) (backToKw pos (keywordEach [] env))) := by rfl) :
    wpS M A (eval (.Call func args [] pos) env) Q s := by
  rw [he]; exact wpS_seq h
theorem evalS_Method {o : Expr} {name : Str} {apos pos : Pos} {args : List Expr} {pl : Sem Bool} {Q : Value → Shared → Prop}
    (h : wpAny M A (eval o env) (fun ov s₁ => wpAny M A (getMethod ov name pl) (fun fx s₂ => wpS M A (callWith pos fx.1 fx.2 (backTo pos (starEach args env)) []) Q s₂) (fun _ _ => False) s₁) (fun _ _ => False) s)
    (he : eval (.Call (.Attribute o name apos) args [] pos) env = (do
      let ov ← eval o env
      standAt apos.atName
      let (f, first) ← holding [ov] (getMethod ov name pl)
      callWith pos f first (backTo pos (starEach args env)) []) := by rfl) :
    wpS M A (eval (.Call (.Attribute o name apos) args [] pos) env) Q s := by
  rw [he]
  refine wpS_seq (wpAny_mono h (fun ov s₁ h₁ => wpS_seq (wpAny_standAt (wpS_seq (wpAny_holding (wpAny_mono h₁ (fun fx s₂ h₂ => ?_) fun _ _ x => x))))) fun _ _ x => x)
  exact h₂
end
end

section
open PySem.Calls PySem.Spec
abbrev lobj (vs : List Value) (k : Nat) : Obj := { cls := .type "list", data := .seq vs.toArray k }
section
variable {prog : Program} {w : World} {A : Around} {s : Shared}

theorem codeS_loop {c : Code} {R : Flow → Shared → Prop} (hh : holder c = false) (I : Nat → Shared → Prop)
    (turn : ∀ n s, I n s → wpS (model prog w) (A.under c) ((model prog w).den c)
      (fun fin s' => match fin with
        | .done f => R f s'
        | .again c' => (c' = c ∧ c.quiet = true ∧ ∃ m, m < n ∧ I m s') ∨ (c'.quiet = true ∧ codeS (model prog w) A c' R s')) s)
    (n : Nat) (h : I n s) : codeS (model prog w) A c R s := by
  induction n using Nat.strongRecOn generalizing s with
  | ind n ih =>
    refine codeS_of_tree hh (wpS_mono (turn n s h) fun fin s' hf => ?_)
    cases fin with
    | done f => exact hf
    | again c' =>
      rcases hf with ⟨rfl, hq, m, hm, hI⟩ | hf
      · exact ⟨hq, ih m hm hI⟩
      · exact hf

theorem codeS_forLoop {R : Flow → Shared → Prop} {target : Expr} {it : Value} {body : List Stmt} {env : Env} (I : Nat → Shared → Prop)
    (turn : ∀ n s, I n s → wpAny (model prog w) A (pyNext it) (fun r s₁ => match r with
      | none => R .next s₁
      | some v => wpAny (model prog w) A (assign target env v) (fun _ s₂ => wpS (model prog w) A (execs body env) (fun f s₃ => match f with
          | .next | .cont => ∃ m, m < n ∧ I m s₃
          | .brk => R .next s₃
          | .ret v => R (.ret v) s₃) s₂) (fun _ _ => False) s₁) (fun _ _ => False) s)
    (n : Nat) (h : I n s) (ht : ∀ v, letOwnedTupleGo target it v = pure () := by intro _; rfl) : codeS (model prog w) A (.forLoop target it body [] env) R s := by
  refine codeS_loop rfl I (fun n s hI => ?_) n h
  show wpS _ A ((forTurn target it body [] env).onRaise (fun x => do noteFrame x env; theTreesLotGoes x)) _ s
  refine wpS_onRaise ?_
  simp only [forTurn]
  refine wpS_seq (wpAny_standAt (wpS_seq (wpAny_onRaise (wpAny_mono (turn n s hI) (fun r s₁ h₁ => ?_) fun _ _ h' => h'.elim))))
  cases r with
  | none =>
    refine wpS_pure (.inr ⟨rfl, codeS_of_tree rfl ?_⟩)
    show wpS _ A (do return Fin.done (← (execs [] env).onRaise (fun x => do noteFrame x env; theTreesLotGoes x))) _ _
    exact wpS_bind (wpS_onRaise (execsS_nil (wpS_pure h₁)))
  | some v =>
    refine wpS_seq (wpAny_of_eq (ht v) ?_)
    refine wpS_seq (wpAny_mono h₁ (fun _ s₂ h₂ => wpS_bind (wpS_mono h₂ fun f s₃ h₃ => ?_)) fun _ _ h' => h')
    cases f with
    | next => exact wpS_pure (.inl ⟨rfl, rfl, h₃⟩)
    | cont => exact wpS_pure (.inl ⟨rfl, rfl, h₃⟩)
    | brk => exact wpS_pure h₃
    | ret v => exact wpS_pure h₃

theorem execS_For {env : Env} {target iter : Expr} {body : List Stmt} {pos : Pos} {Q : Flow → Shared → Prop}
    (h : wpAny (model prog w) A (eval iter env) (fun x s₁ => wpAny (model prog w) A (pyIter x) (fun it s₂ => codeS (model prog w) A (.forLoop target it body [] env) Q s₂) (fun _ _ => False) s₁) (fun _ _ => False) s)
    (hs : ∀ x, foldedSetIterable iter env x = pure x := by intro _; rfl) :
    wpS (model prog w) A (exec (.For target iter body [] pos) env) Q s := by
  rw [exec_For]
  refine wpS_seq (wpAny_standAt (wpS_seq (wpAny_mono h (fun x s₁ h₁ => wpS_seq (wpAny_of_eq (hs x) (wpS_seq (wpAny_standAt (wpS_seq (wpAny_holding
    (wpAny_mono h₁ (fun it s₂ h₂ => ?_) fun _ _ h' => h'))))))) fun _ _ h' => h')))
  unfold runOwn
  exact wpS_onRaise (wpS_run h₂)

/-- a loop over a list of the ledger, by an invariant over its turn's number, the frame's map and the ledger -/
theorem forS_list {env : Env} {h₀ : Heap} {x : Str} {px : Pos} {body : List Stmt} {Q : Flow → Shared → Prop} {l : Addr} {vs : List Value} {k : Nat} {m₀ : Str → Option Value} {news : List (Addr × Obj)}
    (J : Nat → (Str → Option Value) → List (Addr × Obj) → Prop) (hh : A.handled = none) (hx : env.kindOf x = some .local) (hp : (env.scope.kind == .class || (env.scope.kind == .module && env.locals != env.globals)) = false)
    (F : Fr h₀ env.locals s.heap m₀) (N : News h₀ env.locals s.heap news) (hl : (l, lobj vs k) ∈ news) (h0 : J 0 m₀ news)
    (turn : ∀ i v m₁ nx I it h tk, vs[i]? = some v → J i m₁ nx → (∀ p ∈ nx, p.1 ≠ I) → (l, lobj vs k) ∈ nx → Fr h₀ env.locals h (fun y => if y = x then some v else m₁ y) → News h₀ env.locals h ((I, it) :: nx) →
      wpS (model prog w) A (execs body env) (UnrPost h₀ env.locals { s with heap := h, toks := tk } I it (fun m' nx' => (l, lobj vs k) ∈ nx' ∧ J (i + 1) m' nx') Q) { s with heap := h, toks := tk })
    (done : ∀ m₁ nx h tk, J vs.length m₁ nx → Fr h₀ env.locals h m₁ → News h₀ env.locals h nx → Q .next { s with heap := h, toks := tk }) :
    wpAny (model prog w) A (pyIter (.ref l)) (fun it s₂ => codeS (model prog w) A (.forLoop (.Name x px) it body [] env) Q s₂) (fun _ _ => False) s := by
  have hls : s.heap.IsList l vs.toArray := ⟨_, (N _ hl).1, rfl, k, rfl⟩
  refine wpAny_pyIter_list hls ?_
  have hlt : ∀ p ∈ news, p.1 < s.heap.objs.size := fun p hp => Heap.lt_size (N p hp).1
  have hne : l ≠ s.heap.objs.size := Nat.ne_of_lt (hlt _ hl)
  have hI₀ := next_is_new F
  have hLI : env.locals ≠ s.heap.objs.size := Nat.ne_of_lt F.ns.lt
  have W := Walks.list (prog := prog) (w := w) hh s.heap.objs.size l hne vs.toArray
  refine codeS_forLoop (fun n' s' => ∃ h' tk m' nx i, s' = { s with heap := h', toks := tk } ∧ h'.IsListIter s.heap.objs.size l i ∧ Fr h₀ env.locals h' m' ∧ News h₀ env.locals h' nx ∧ (∀ p ∈ nx, p.1 ≠ s.heap.objs.size) ∧ (l, lobj vs k) ∈ nx ∧ J i m' nx ∧ i ≤ vs.length ∧ n' = vs.length + 1 - i) ?_ (vs.length + 1)
    ⟨_, _, m₀, news, 0, rfl, ⟨_, Heap.get?_push_size _ rfl, rfl, rfl⟩, F.push _, fun p hp => ⟨Heap.get?_push_of_some _ (N p hp).1, (N p hp).2⟩, fun p hp => Nat.ne_of_lt (hlt p hp), hl, h0, Nat.zero_le _, rfl⟩
  rintro n' s' ⟨h', tk, m', nx, i, rfl, hit, F', N', off', hl', hJ, hi, rfl⟩
  have hls' : h'.IsList l vs.toArray := ⟨_, (N' _ hl').1, rfl, k, rfl⟩
  have next : ∀ h₁ : Heap, (∀ b o, b ∉ [s.heap.objs.size] → h'.get? b = some o → h₁.get? b = some o) → Fr h₀ env.locals h₁ m' ∧ News h₀ env.locals h₁ nx := fun h₁ hk₁ =>
    ⟨⟨F'.ns.at' fun o e => hk₁ _ o (by simpa using hLI) e, fun b o e => hk₁ b o (fun hb => by rw [List.mem_singleton.mp hb, hI₀] at e; cases e) (F'.keep b o e), F'.above⟩,
      fun p hp => ⟨hk₁ _ _ (by simpa using off' p hp) (N' p hp).1, (N' p hp).2⟩⟩
  by_cases hlt' : i < vs.length
  · refine W.item i _ _ _ (by simpa using hlt') ⟨hit, hls'⟩ fun v h₁ tk₁ hP hst₁ hk₁ => ?_
    obtain ⟨F₁, N₁⟩ := next h₁ hk₁
    refine wpAny_assign_Name (wpAny_storeName_local hx F₁.ns (fun h₂ hn₂ hs₂ => ?_) hp)
    have F₂ := F₁.set hn₂ hs₂
    obtain ⟨it, hit₁, hc₁, hd₁⟩ := hst₁.1
    have N₂ : News h₀ env.locals h₂ ((s.heap.objs.size, it) :: nx) := fun p hp => by
      rcases List.mem_cons.mp hp with rfl | hp
      · exact ⟨(hs₂.2 _ (Ne.symm hLI)).trans hit₁, Ne.symm hLI, hI₀⟩
      · exact (N₁.set hs₂) p hp
    have hv : vs[i]? = some v := by simpa using hP
    refine wpS_mono (turn i v m' nx s.heap.objs.size it h₂ _ hv hJ off' hl' F₂ N₂) (fun f s₃ h₃ => ?_)
    have fin : UnrEnd h₀ env.locals { s with heap := h₂, toks := tk₁ + 1 } s.heap.objs.size it (fun m' nx' => (l, lobj vs k) ∈ nx' ∧ J (i + 1) m' nx') s₃ →
        ∃ m, m < vs.length + 1 - i ∧ ∃ h' tk m' nx i, s₃ = { s with heap := h', toks := tk } ∧ h'.IsListIter s.heap.objs.size l i ∧ Fr h₀ env.locals h' m' ∧ News h₀ env.locals h' nx ∧ (∀ p ∈ nx, p.1 ≠ s.heap.objs.size) ∧ (l, lobj vs k) ∈ nx ∧ J i m' nx ∧ i ≤ vs.length ∧ m = vs.length + 1 - i := by
      rintro ⟨g₃, tk₃, m₃, nx₃, e₃, F₃, N₃, off₃, hl₃, hJ₃⟩
      exact ⟨vs.length + 1 - (i + 1), by omega, g₃, tk₃, m₃, nx₃, i + 1, e₃, ⟨it, (N₃ _ (.head _)).1, hc₁, hd₁⟩, F₃, fun p hp => N₃ p (.tail _ hp), off₃, hl₃, hJ₃, hlt', rfl⟩
    cases f with
    | ret v => exact h₃
    | brk => exact h₃
    | next => exact fin h₃
    | cont => exact fin h₃
  · have hin : i = vs.length := by omega
    subst hin
    refine W.done _ _ _ (by simpa using (⟨hit, hls'⟩ : _ ∧ _)) fun h₁ tk₁ hk₁ => ?_
    obtain ⟨F₁, N₁⟩ := next h₁ hk₁
    exact done m' nx h₁ tk₁ hJ F₁ N₁

/-- the same for the library's own modality -/
theorem forA_list {E : Value → Shared → Prop} {env : Env} {h₀ : Heap} {x : Str} {body : List Stmt} {Q : Flow → Shared → Prop} {l : Addr} {vs : List Value} {k : Nat} {m₀ : Str → Option Value} {news : List (Addr × Obj)}
    (J : Nat → (Str → Option Value) → List (Addr × Obj) → Prop) (hh : A.handled = none)
    (F : Fr h₀ env.locals s.heap m₀) (N : News h₀ env.locals s.heap news) (hl : (l, lobj vs k) ∈ news) (h0 : J 0 m₀ news)
    (turn : ∀ i v m₁ nx I it h tk, vs[i]? = some v → J i m₁ nx → (∀ p ∈ nx, p.1 ≠ I) → (l, lobj vs k) ∈ nx → it.cls = .type "list_iterator" → Fr h₀ env.locals h (fun y => if y = x then some v else m₁ y) → News h₀ env.locals h ((I, it) :: nx) →
      wpAny (model prog w) A (execs body env) (UnrPost h₀ env.locals { s with heap := h, toks := tk } I it (fun m' nx' => (l, lobj vs k) ∈ nx' ∧ J (i + 1) m' nx') Q) E { s with heap := h, toks := tk })
    (done : ∀ m₁ nx h tk, J vs.length m₁ nx → Fr h₀ env.locals h m₁ → News h₀ env.locals h nx → Q .next { s with heap := h, toks := tk }) :
    wpAny (model prog w) A (pyIter (.ref l)) (fun it s₂ => LoopAtV prog w A h₀ env x body Q E it s₂) E s := by
  have hls : s.heap.IsList l vs.toArray := ⟨_, (N _ hl).1, rfl, k, rfl⟩
  have hlt : ∀ p ∈ news, p.1 < s.heap.objs.size := fun p hp => Heap.lt_size (N p hp).1
  have hne : l ≠ s.heap.objs.size := Nat.ne_of_lt (hlt _ hl)
  have hI₀ := next_is_new F
  have hl₀ : h₀.get? l = none := (N _ hl).2.2
  have hLI : env.locals ≠ s.heap.objs.size := Nat.ne_of_lt F.ns.lt
  have hlL : env.locals ≠ l := fun e => (N _ hl).2.1 e.symm
  refine wpAny_pyIter_list hls ?_
  have W := Walks.list (prog := prog) (w := w) hh s.heap.objs.size l hne vs.toArray
  refine ⟨_, _, _, _, _, _, m₀, news, (fun i m nx => (l, lobj vs k) ∈ nx ∧ J i m nx), rfl, W, ?_, ?_, ?_, ⟨⟨_, Heap.get?_push_size _ rfl, rfl, rfl⟩, hls.at fun o e => Heap.get?_push_of_some _ e⟩, F.push _, (fun p hp => ⟨Heap.get?_push_of_some _ (N p hp).1, (N p hp).2⟩), ⟨hl, h0⟩, ?_, ?_⟩
  · intro hm
    rcases List.mem_cons.mp hm with e | hm
    · exact hLI e
    · exact hlL (List.mem_singleton.mp hm)
  · intro b hb
    rw [List.mem_singleton.mp hb]
    exact hI₀
  · intro p hp hI
    exact Nat.ne_of_lt (hlt p hp) (List.mem_singleton.mp hI)
  · rintro i v m₁ nx s₁ own ⟨hh', tk', rfl⟩ hin hP ⟨hl', hJ⟩ hoff hown hget hall hst' F₁ N₁
    obtain ⟨it, hit, hic, hid⟩ := hst'.1
    have hmemI := hall s.heap.objs.size (.head _) hI₀ _ hit
    have off : ∀ p ∈ nx, p.1 ≠ s.heap.objs.size := fun p hp e => hoff p hp (by rw [e]; exact List.mem_singleton.mpr rfl)
    have hv : vs[i]? = some v := by simpa using hP
    have N₂ : News h₀ env.locals hh' ((s.heap.objs.size, it) :: nx) := fun p hp => by
      rcases List.mem_cons.mp hp with rfl | hp
      · exact N₁ _ (List.mem_append_left _ hmemI)
      · exact N₁ _ (List.mem_append_right _ hp)
    refine wpAny_mono (turn i v m₁ nx s.heap.objs.size it hh' tk' hv hJ off hl' hic F₁ N₂) (fun f s₂ p => ?_) fun _ _ e => e
    have fin : UnrEnd h₀ env.locals { s with heap := hh', toks := tk' } s.heap.objs.size it (fun m' nx' => (l, lobj vs k) ∈ nx' ∧ J (i + 1) m' nx') s₂ →
        LoopStepU h₀ env.locals [s.heap.objs.size] own (fun m nx => (l, lobj vs k) ∈ nx ∧ J (i + 1) m nx) { s with heap := hh', toks := tk' } .next s₂ := by
      rintro ⟨h', tk, m', news', e, F', N', ho, r⟩
      refine ⟨rfl, h', tk, m', news', e, F', fun p hp => ?_, fun p hp hI => ho p hp (List.mem_singleton.mp hI), r⟩
      rcases List.mem_append.mp hp with hp | hp
      · have h2 : hh'.get? p.1 = some p.2 := hget p hp
        rcases List.mem_cons.mp (hown p hp) with h1 | h1
        · have h3 : p = (s.heap.objs.size, it) := by
            rw [h1, hit] at h2
            exact Prod.ext h1 (Option.some.inj h2).symm
          rw [h3]; exact N' _ (List.mem_cons_self ..)
        · have h1 := List.mem_singleton.mp h1
          have h4 : hh'.get? l = some (lobj vs k) := (N₂ _ (.tail _ hl')).1
          have h3 : p = (l, lobj vs k) := by
            rw [h1, h4] at h2
            exact Prod.ext h1 (Option.some.inj h2).symm
          rw [h3]; exact N' _ (.tail _ r.1)
      · exact N' _ (List.mem_cons_of_mem _ hp)
    cases f with
    | ret v => exact .ret p
    | brk => exact .brk p
    | next => exact .next (fin p)
    | cont => exact .cont (fin p)
  · rintro h' tk m' news' F' N' _ ⟨_, hJ⟩
    exact done m' news' h' tk (by simpa using hJ) F' N'
end
end

section
open PySem.Calls PySem.Spec
abbrev baObj (b : Array UInt8) : Obj := { cls := .type "bytearray", data := .bytearray b }

namespace BA
theorem mro : mroOf (.type "bytearray") = pure [.type "bytearray", .type "object"] := by rw [mroOf_type]; kernel_rfl
theorem lookup_new : typeLookup (.type "bytearray") "__new__" = pure (some (.builtin "bytearray.__new__")) := by rw [typeLookup_type, builtinLookup_eq_fast]; kernel_rfl
theorem look_release : typeLookup (.type "bytearray") "__release_buffer__" = pure (some (.builtin "bytearray.__release_buffer__")) := by rw [typeLookup_type, builtinLookup_eq_fast]; kernel_rfl
theorem look_extend : typeLookup (.type "bytearray") "extend" = pure (some (.builtin "bytearray.extend")) := by rw [typeLookup_type, builtinLookup_eq_fast]; kernel_rfl
theorem look_getattribute : typeLookup (.type "bytearray") "__getattribute__" = pure (some (.builtin "bytearray.__getattribute__")) := by rw [typeLookup_type, builtinLookup_eq_fast]; kernel_rfl
theorem look_getattr : typeLookup (.type "bytearray") "__getattr__" = pure none := by rw [typeLookup_type, builtinLookup_eq_fast]; kernel_rfl
theorem look_index : typeLookup (.type "bytearray") "__index__" = pure none := by rw [typeLookup_type, builtinLookup_eq_fast]; kernel_rfl
theorem look_bytes : typeLookup (.type "bytearray") "__bytes__" = pure none := by rw [typeLookup_type, builtinLookup_eq_fast]; kernel_rfl
theorem look_buffer : typeLookup (.type "bytearray") "__buffer__" = pure (some (.builtin "bytearray.__buffer__")) := by rw [typeLookup_type, builtinLookup_eq_fast]; kernel_rfl
theorem sub_self : isSubtype (.type "bytearray") (.type "bytearray") = pure true := by rw [isSubtype_type]; kernel_rfl
theorem slot_init : Slot "bytearray" "__init__" "bytearray.__init__" :=
  .of (owner := "bytearray") (n := "__init__") (by rw [typeLookup_type, builtinLookup_eq_fast]; kernel_rfl) (by decide +kernel) (by decide +kernel) (by decide +kernel)
    (by first | exact .inl (by decide +kernel) | exact .inr (by decide +kernel)) (by rw [isSubtype_type]; kernel_rfl)
theorem slot_len : Slot "bytearray" "__len__" "bytearray.__len__" :=
  .of (owner := "bytearray") (n := "__len__") (by rw [typeLookup_type, builtinLookup_eq_fast]; kernel_rfl) (by decide +kernel) (by decide +kernel) (by decide +kernel)
    (by first | exact .inl (by decide +kernel) | exact .inr (by decide +kernel)) (by rw [isSubtype_type]; kernel_rfl)
theorem called : TypeCalled "bytearray" "bytearray.__new__" "bytearray.__init__" :=
  ⟨by decide +kernel, by decide +kernel, ⟨_, _, mro⟩, madeBy_type mro lookup_new (by decide +kernel), by decide +kernel, by rw [isSubtype_type]; kernel_rfl, slot_init⟩
theorem typeCall : checkTypeCall "bytearray" ⟨[], []⟩ = pure () := by kernel_rfl
theorem newCall : checkBuiltinCall "bytearray.__new__" ⟨[.type "bytearray"], []⟩ = pure () := by kernel_rfl
theorem entry_new : entryFor table "bytearray.__new__" = some Builtin.«list.__new__» := entryFor_alias (id' := "list.__new__") (by kernel_rfl) rfl (by decide +kernel) (by kernel_rfl)
theorem entry_init : entryFor table "bytearray.__init__" = some Builtin.«bytearray.__init__» := by first | exact entryFor_of_fast (by kernel_rfl) | exact entryFor_of_tree (by kernel_rfl)
theorem entry_extend : entryFor table "bytearray.extend" = some Builtin.«bytearray.extend» := by first | exact entryFor_of_fast (by kernel_rfl) | exact entryFor_of_tree (by kernel_rfl)
theorem entry_len : entryFor table "bytearray.__len__" = some Builtin.«bytearray.__len__» := by first | exact entryFor_of_fast (by kernel_rfl) | exact entryFor_of_tree (by kernel_rfl)
theorem plain_new : plainId "bytearray.__new__" = true := by decide +kernel
theorem plain_init : plainId "bytearray.__init__" = true := by decide +kernel
theorem plain_extend : plainId "bytearray.extend" = true := by decide +kernel
theorem bind0 : Builtin.Bytes.bindOptional "bytearray.__init__" "bytearray" ["source", "encoding", "errors"] [] [] = pure [none, none, none] := by kernel_rfl
theorem args_init (a : Value) : argsOk "bytearray.__init__" ⟨[a], []⟩ := by unfold argsOk; kernel_rfl
theorem slot_extend : Slot "bytearray" "extend" "bytearray.extend" :=
  .of (owner := "bytearray") (n := "extend") (by rw [typeLookup_type, builtinLookup_eq_fast]; kernel_rfl) (by decide +kernel) (by decide +kernel) (by decide +kernel)
    (by first | exact .inl (by decide +kernel) | exact .inr (by decide +kernel)) (by rw [isSubtype_type]; kernel_rfl)
theorem args_extend (a : Value) (b : Array UInt8) (t : Tok) : argsOk "bytearray.extend" ⟨[a, .bytes b t], []⟩ := by unfold argsOk; kernel_rfl
theorem args_len (a : Value) : argsOk "bytearray.__len__" ⟨[a], []⟩ := by unfold argsOk; kernel_rfl
theorem ends_release : ("bytearray.__release_buffer__".endsWith ("." ++ "__release_buffer__")) = true := by decide +kernel
theorem drop_release : ("bytearray.__release_buffer__".dropRight ("__release_buffer__".length + 1)) = "bytearray" := by decide +kernel
end BA

section
variable {M : Model} {A : Around} {s : Shared}
theorem exported_S {d : Addr} {Q : Bool → Shared → Prop} (h : Q false s) : wpS M A (Builtin.Bytes.exported (.ref d)) Q s := fun Γ p _ hG => by
  show Q (((Γ.code, p) :: Γ.below).any _) s
  have hall : ∀ q ∈ (Γ.code, p) :: Γ.below, holder q.1 = false := fun q hq => by
    rcases List.mem_cons.mp hq with rfl | hq
    · exact hG.1
    · exact hG.2 q hq
  have hf : (((Γ.code, p) :: Γ.below).any fun
      | (.builtin "bytearray.__contains__" ⟨v :: _, _⟩, _) | (.builtin "bytearray.__mod__" ⟨v :: _, _⟩, _)
      | (.builtin "bytearray.__rmod__" ⟨_ :: v :: _, _⟩, _) | (.builtin "_struct.pack_into.held" ⟨v :: _, _⟩, _) => Builtin.Bytes.sameRef v (.ref d)
      | (.builtin "bytearray.find.held" ⟨_ :: _ :: held, _⟩, _) => held.any (Builtin.Bytes.sameRef (.ref d))
      | (.builtin id ⟨v :: _, _⟩, _) => Builtin.Bytes.sameRef v (.ref d) && Builtin.Bytes.decodersThatHold.contains id
      | _ => false) = false := by
    rw [List.any_eq_false]
    rintro ⟨c, pos⟩ hq
    have hc := hall _ hq
    cases c <;> try exact Bool.false_ne_true
    rename_i id args
    dsimp only [holder] at hc
    split
    · rename_i heq
      cases heq
      exact absurd hc (by decide +kernel)
    · rename_i heq
      cases heq
      exact absurd hc (by decide +kernel)
    · rename_i heq
      cases heq
      exact absurd hc (by decide +kernel)
    · rename_i heq
      cases heq
      exact absurd hc (by decide +kernel)
    · rename_i heq
      cases heq
      exact absurd hc (by decide +kernel)
    · rename_i heq
      cases heq
      have hd : Builtin.Bytes.decodersThatHold.contains id = false := by
        cases hx : Builtin.Bytes.decodersThatHold.contains id with
        | false => rfl
        | true =>
          have : holderIds.contains id = true := by
            rw [List.contains_iff_mem] at hx ⊢
            exact List.mem_append_right _ hx
          rw [this] at hc
          cases hc
      rw [hd, Bool.and_false]
      exact Bool.false_ne_true
    · exact Bool.false_ne_true
  first
    | exact (congrArg (fun b => Q b s) hf).mpr h
    | (have e := hf; simp only [] at e; rw [e]; exact h)
end
end

section
open PySem.Calls PySem.Spec
section
variable {prog : Program} {w : World} {A : Around} {s : Shared}

theorem callS_entry {T : String} {name : Str} {id : String} {b : Builtin} {self : Value} {rest : List Value} {Q : Value → Shared → Prop} (h : Slot T name id) (hT : s.TypeIs self T)
    (hb : entryFor table id = some b) (hh : holderIds.contains id = false) (ha : argsOk id ⟨self :: rest, []⟩)
    (hc : wpS (model prog w) A.in1 (b ⟨self :: rest, []⟩) (fun fin s' => ∃ v, fin = .done (.ret v) ∧ Q v s') s) : wpS (model prog w) A (call (.builtin id) (self :: rest)) Q s := by
  refine wpS_call (codeS_of_tree rfl ?_)
  show wpS _ A.in1 (do checkBuiltinCall id ⟨self :: rest, []⟩; again (.builtin id ⟨self :: rest, []⟩)) _ s
  refine wpS_seq (h.check _ _ _ _ _ _ _ _ hT ha (wpS_pure ⟨plainId_quiet h.plain _, codeS_of_tree hh ?_⟩))
  rw [Around.under_plainId h.plain _]
  show wpS _ _ (match entryFor table id with | some b => b ⟨self :: rest, []⟩ | none => unsupported ((withoutEnding? id "#data").getD id)) _ s
  rw [hb]
  refine wpS_mono hc fun fin s' h' => ?_
  obtain ⟨v, rfl, hv⟩ := h'
  exact hv

theorem ownRelease_ba {E : Value → Shared → Prop} {d : Addr} {Q : Bool → Shared → Prop} (hT : s.TypeIs (.ref d) "bytearray") (h : Q false s) : wpAny (model prog w) A (Builtin.Bytes.ownRelease (.ref d)) Q E s := by
  unfold Builtin.Bytes.ownRelease Builtin.Bytes.slotIsOwn
  refine wpAny_bind (wpAny_bind (wpAny_specialOf hT BA.look_release ?_))
  simp only []
  rw [BA.ends_release]
  simp only [Bool.not_true, Bool.false_eq_true, if_false]
  rw [BA.drop_release]
  exact wpAny_isInstance hT BA.sub_self (wpAny_pure h)

theorem payload_ba {E : Value → Shared → Prop} {d : Addr} {o : Obj} {b : Array UInt8} {n : Nat} {Q : Array UInt8 → Shared → Prop} (ho : s.heap.get? d = some o) (hd : o.data = .bytearray b n) (h : Q b s) : wpAny (model prog w) A (Builtin.Bytes.payload (.ref d)) Q E s := by
  unfold Builtin.Bytes.payload Builtin.Bytes.payload?
  refine wpAny_bind (wpAny_bind (wpAny_load ho ?_))
  rw [hd]
  exact wpAny_pure (wpAny_pure h)

theorem exportsOf_ba {E : Value → Shared → Prop} {d : Addr} {o : Obj} {b : Array UInt8} {n : Nat} {Q : Nat → Shared → Prop} (ho : s.heap.get? d = some o) (hd : o.data = .bytearray b n) (h : Q n s) : wpAny (model prog w) A (Builtin.Bytes.exportsOf (.ref d)) Q E s := by
  unfold Builtin.Bytes.exportsOf
  refine wpAny_bind (wpAny_load ho ?_)
  rw [hd]
  exact wpAny_pure h

theorem write_ba {E : Value → Shared → Prop} {d : Addr} {b : Array UInt8} {f : Array UInt8 → Array UInt8} {Q : Unit → Shared → Prop} (ho : s.heap.get? d = some (baObj b)) (hz : (f b).size ≤ sizeLine)
    (h : (s.heap.update d (Obj.mapBytearray f)).get? d = some (baObj (f b)) → Q () { s with heap := s.heap.update d (Obj.mapBytearray f) }) : wpAny (model prog w) A (Builtin.Bytes.write (.ref d) f) Q E s := by
  have hx : (s.heap.update d (Obj.mapBytearray f)).get? d = some (baObj (f b)) := Heap.get?_update_self _ ho rfl
  show wpAny _ _ (updateBytearray d f) _ _ _
  unfold updateBytearray lookBehind
  refine wpAny_bind (wpAny_load ho ?_)
  refine wpAny_bind (wpAny_update ho (wpAny_bind (wpAny_loadPart hx ?_)))
  have hp : (baObj (f b)).data.pastItsLine = none := by
    show (if (f b).size > sizeLine then some "bytearray:memory" else none) = none
    rw [if_neg (Nat.not_lt.mpr hz)]
  rw [hp]
  exact wpAny_pure (h hx)

/-- the look whether the memory may be moved: it may -/
theorem looks_free {d : Addr} {o : Obj} {b : Array UInt8} {Q : Bool → Shared → Prop} (ho : s.heap.get? d = some o) (hd : o.data = .bytearray b 0) (h : Q false s) :
    wpS (model prog w) A (Builtin.Bytes.exported (.ref d) <||> (do return decide ((← Builtin.Bytes.exportsOf (.ref d)) > 0))) Q s := by
  show wpS _ _ (Builtin.Bytes.exported (.ref d) >>= fun b => _) _ _
  refine wpS_bind (exported_S ?_)
  show wpS _ _ (Builtin.Bytes.exportsOf (.ref d) >>= fun n => _) _ _
  exact wpS_seq (exportsOf_ba ho hd (wpS_pure h))

theorem checkResize_S {d : Addr} {o : Obj} {b : Array UInt8} {Q : Unit → Shared → Prop} (ho : s.heap.get? d = some o) (hd : o.data = .bytearray b 0) (h : Q () s) : wpS (model prog w) A (Builtin.Bytes.checkResize (.ref d)) Q s := by
  unfold Builtin.Bytes.checkResize
  refine wpS_bind (looks_free ho hd ?_)
  exact wpS_pure h

theorem extend_S {d : Addr} {b c : Array UInt8} {t : Tok} {Q : Value → Shared → Prop} (ho : s.heap.get? d = some (baObj b)) (hz : (b ++ c).size ≤ sizeLine)
    (h : (s.heap.update d (Obj.mapBytearray (· ++ c))).get? d = some (baObj (b ++ c)) → Q .none { s with heap := s.heap.update d (Obj.mapBytearray (· ++ c)) }) :
    wpS (model prog w) A (call (.builtin "bytearray.extend") [.ref d, .bytes c t]) Q s := by
  have hT : s.TypeIs (.ref d) "bytearray" := ⟨_, ho, rfl⟩
  refine callS_entry BA.slot_extend hT BA.entry_extend (by decide +kernel) (BA.args_extend _ _ _) ?_
  unfold Builtin.«bytearray.extend»
  refine wpS_seq (wpAny_of_eq (a := (Value.ref d, Value.bytes c t)) rfl ?_)
  refine wpS_seq (wpAny_of_eq (KBy.special_eq KBy.look_buffer) ?_)
  refine wpS_seq (wpAny_rule ?_)
  refine wpS_seq (payload_ba ho rfl ?_)
  have hb : Builtin.Bytes.takeBufferQuiet? "bytearray.extend" (.bytes c t) 0 = pure (some (c, none)) := by
    unfold Builtin.Bytes.takeBufferQuiet? Builtin.Bytes.takeBuffer?
    rw [show ((0 : Int) == Builtin.Bytes.fullReadOnly) = false by decide, KBy.special_eq KBy.look_buffer, KBy.own_buffer, KBy.buffer_eq]
    rfl
  refine wpS_seq (wpAny_of_eq hb ?_)
  show wpS _ _ (do
    if !c.isEmpty then Builtin.Bytes.checkResize (.ref d)
    Builtin.Bytes.write (.ref d) (· ++ c)
    ret .none) _ _
  have fin : wpS (model prog w) A.in1 (do Builtin.Bytes.write (.ref d) (· ++ c); ret .none) (fun fin s' => ∃ v, fin = .done (.ret v) ∧ Q v s') s :=
    wpS_seq (write_ba ho hz fun hx => wpS_pure ⟨_, rfl, h hx⟩)
  cases hc : c.isEmpty with
  | true => exact fin
  | false => exact wpS_bind (checkResize_S ho rfl fin)

theorem init_S {d : Addr} {b : Array UInt8} {Q : Value → Shared → Prop} (ho : s.heap.get? d = some (baObj b))
    (h : (s.heap.update d (Obj.mapBytearray fun _ => #[])).get? d = some (baObj #[]) → Q .none { s with heap := s.heap.update d (Obj.mapBytearray fun _ => #[]) }) :
    wpS (model prog w) A (call (.builtin "bytearray.__init__") [.ref d]) Q s := by
  have hT : s.TypeIs (.ref d) "bytearray" := ⟨_, ho, rfl⟩
  refine callS_entry BA.slot_init hT BA.entry_init (by decide +kernel) (BA.args_init _) ?_
  unfold Builtin.«bytearray.__init__»
  refine wpS_seq (ownRelease_ba hT ?_)
  refine wpS_seq (wpAny_of_eq BA.bind0 ?_)
  refine wpS_seq (wpAny_of_eq (a := ()) rfl ?_)
  refine wpS_seq (wpAny_of_eq (a := ()) rfl ?_)
  refine wpS_bind (looks_free ho rfl ?_)
  refine wpS_seq (write_ba ho (Nat.zero_le _) fun hx => ?_)
  exact wpS_pure ⟨_, rfl, h hx⟩
end
end

section
open PySem.Calls PySem.Spec
section
variable {prog : Program} {w : World} {A : Around} {s : Shared}

theorem codeS_builtin {id : String} {args : Args} {b : Builtin} {R : Flow → Shared → Prop} (hb : entryFor table id = some b) (hh : holderIds.contains id = false)
    (h : wpS (model prog w) (A.under (.builtin id args)) (b args) (fun fin s' => match fin with | .done f => R f s' | .again c' => c'.quiet = true ∧ codeS (model prog w) A c' R s') s) : codeS (model prog w) A (.builtin id args) R s := by
  refine codeS_of_tree hh ?_
  show wpS _ _ (match entryFor table id with | some b => b args | none => unsupported ((withoutEnding? id "#data").getD id)) _ s
  rw [hb]; exact h

theorem wpS_ite_no {α : Type} {M : Model} {c : Bool} {a b : Sem α} {Q : α → Shared → Prop} (hc : c = false) (h : wpS M A b Q s) : wpS M A (if c = true then a else b) Q s := by
  subst hc
  exact h

theorem special_S {self : Value} {T : String} {name : Str} {id : String} {rest : List Value} {Q : Option Value → Shared → Prop} (h : Slot T name id) (hT : s.TypeIs self T)
    (hc : wpS (model prog w) A (call (.builtin id) (self :: rest)) (fun v s' => Q (some v) s') s) : wpS (model prog w) A (callSpecial? self name rest []) Q s := by
  unfold callSpecial?
  refine wpS_bind (wpS_of_any (wpAny_specialOf hT h.lookup ?_))
  refine wpS_holding ?_
  refine wpS_seq (wpAny_of_eq (h.bind self) ?_)
  exact wpS_bind (wpS_mono hc fun v s' hv => wpS_pure hv)

set_option maxRecDepth 1000000 in
theorem owner_ba_new : ("bytearray.__new__".splitOn ".__new__").headD "" = "bytearray" := by simp +decide [String.splitOn, String.splitOnAux]

theorem new_ba {E : Value → Shared → Prop} {Q : Value → Shared → Prop} (h : Q (.ref s.heap.objs.size) { s with heap := s.heap.push (baObj #[]) }) :
    codeAny (model prog w) A (.call (.builtin "bytearray.__new__") ⟨[.type "bytearray"], []⟩) (wants Q E) s := by
  refine codeAny_of_tree ?_
  show wpAny _ A.in1 (do checkBuiltinCall "bytearray.__new__" ⟨[.type "bytearray"], []⟩; again (.builtin "bytearray.__new__" ⟨[.type "bytearray"], []⟩)) _ _ s
  refine wpAny_bind (wpAny_of_eq BA.newCall (wpAny_pure ⟨plainId_quiet BA.plain_new _, codeAny_builtin_stack BA.entry_new rfl fun p st => ?_⟩))
  rw [Around.under_plainId BA.plain_new _]
  have hsub := BA.sub_self
  have hown := owner_ba_new
  simp only [hown]
  wp_walk
  exact h

theorem call_bytearray {Q : Value → Shared → Prop} (h : ∀ h', h'.get? s.heap.objs.size = some (baObj #[]) → (∀ b o, s.heap.get? b = some o → h'.get? b = some o) → Q (.ref s.heap.objs.size) { s with heap := h' }) :
    wpS (model prog w) A (call (.type "bytearray") []) Q s := by
  refine wpS_call (codeS_of_tree rfl ?_)
  show wpS _ _ (callAny (.type "bytearray") _) _ _
  refine wpS_pure ⟨Code.quiet_builtin _ (by decide +kernel), codeS_builtin F.entry_type_call (by decide +kernel) ?_⟩
  rw [Around.under_plain (weight_type_call_type "bytearray" [] []) rfl]
  unfold Builtin.«type.__call__»
  refine wpS_ite_no rfl ?_
  refine wpS_ite_no BA.called.canCreate ?_
  refine wpS_seq (wpAny_of_eq BA.typeCall ?_)
  refine wpS_seq (wpAny_of_eq BA.mro ?_)
  refine wpS_ite_no rfl ?_
  refine wpS_seq (wpAny_of_eq BA.called.made ?_)
  refine wpS_bind (wpS_pure ?_)
  refine wpS_seq (wpAny_holding (wpAny_call (new_ba ?_)))
  have hx : (s.heap.push (baObj #[])).get? s.heap.objs.size = some (baObj #[]) := Heap.get?_push_size _ rfl
  have hT : ({ s with heap := s.heap.push (baObj #[]) } : Shared).TypeIs (.ref s.heap.objs.size) "bytearray" := ⟨_, hx, rfl⟩
  refine wpS_seq (wpAny_isInstance hT BA.sub_self ?_)
  refine wpS_ite_no rfl ?_
  refine wpS_bind (wpS_holding (special_S BA.slot_init hT (init_S hx fun hy => ?_)))
  refine wpS_pure (h _ hy fun b o e => ?_)
  have hb : b ≠ s.heap.objs.size := Nat.ne_of_lt (Heap.lt_size e)
  exact (Heap.get?_update_ne _ _ _ _ hb).trans (Heap.get?_push_of_some _ e)
end
end

section
open PySem.Calls PySem.Spec
namespace BA
theorem canon_ga : (Manifest.canonical "bytearray.__getattribute__" != "object.__getattribute__") = false := by decide +kernel
theorem type_extend : typeOf (.builtin "bytearray.extend") = pure (.type "method_descriptor") := by kernel_rfl
theorem ends_buffer : ("bytearray.__buffer__".endsWith ("." ++ "__buffer__")) = true := by decide +kernel
theorem drop_buffer : ("bytearray.__buffer__".dropRight ("__buffer__".length + 1)) = "bytearray" := by decide +kernel
theorem bytes_bytes : typeLookup (.type "bytes") "__bytes__" = pure (some (.builtin "bytes.__bytes__")) := by rw [typeLookup_type, builtinLookup_eq_fast]; kernel_rfl
end BA
section
variable {prog : Program} {w : World} {A : Around} {E : Value → Shared → Prop} {s : Shared}

theorem getMethod_ba {M : Model} {d : Addr} {b : Array UInt8} {pl : Sem Bool} {Q : Value × List Value → Shared → Prop} (ho : s.heap.get? d = some (baObj b)) (h : Q (.builtin "bytearray.extend", [.ref d]) s) :
    wpAny M A (getMethod (.ref d) "extend" pl) Q E s := by
  have hT : s.TypeIs (.ref d) "bytearray" := ⟨_, ho, rfl⟩
  unfold getMethod
  refine wpAny_bind (wpAny_specialOf hT BA.look_getattribute ?_)
  show wpAny M A (if (Manifest.canonical "bytearray.__getattribute__" != "object.__getattribute__") = true then _ else _) Q E s
  rw [BA.canon_ga, if_neg Bool.false_ne_true]
  refine wpAny_bind (wpAny_specialOf hT BA.look_getattr ?_)
  refine wpAny_bind (wpAny_specialOf hT BA.look_extend ?_)
  refine wpAny_bind (wpAny_of_eq BA.type_extend ?_)
  refine wpAny_bind (wpAny_load ho ?_)
  exact wpAny_bind (wpAny_rule (wpAny_pure h))

theorem ownBuffer_ba {d : Addr} {Q : Bool → Shared → Prop} (hT : s.TypeIs (.ref d) "bytearray") (h : Q true s) : wpAny (model prog w) A (Builtin.Bytes.slotIsOwn (.ref d) "__buffer__") Q E s := by
  unfold Builtin.Bytes.slotIsOwn
  refine wpAny_bind (wpAny_specialOf hT BA.look_buffer ?_)
  simp only []
  rw [BA.ends_buffer]
  simp only [Bool.not_true, Bool.false_eq_true, if_false]
  rw [BA.drop_buffer]
  exact wpAny_isInstance hT BA.sub_self h

theorem buffer_ba {id : String} {d : Addr} {b : Array UInt8} {full : Bool} {Q : Option (Array UInt8) → Shared → Prop} (ho : s.heap.get? d = some (baObj b)) (h : Q (some b) s) : wpAny (model prog w) A (Builtin.Bytes.buffer? id (.ref d) full) Q E s := by
  have hT : s.TypeIs (.ref d) "bytearray" := ⟨_, ho, rfl⟩
  unfold Builtin.Bytes.buffer?
  refine wpAny_bind (wpAny_specialOf hT BA.look_buffer ?_)
  refine wpAny_bind (ownBuffer_ba hT ?_)
  show wpAny _ _ (specialOf (.ref d) "__buffer__" >>= _) _ _ _
  refine wpAny_bind (wpAny_specialOf hT BA.look_buffer ?_)
  refine wpAny_bind (ownRelease_ba hT ?_)
  refine wpAny_bind (payload_ba ho rfl ?_)
  exact wpAny_pure h

theorem ba_new {d : Addr} {b : Array UInt8} {Q : Value → Shared → Prop} (ho : s.heap.get? d = some (baObj b)) (hz : b.size ≤ sizeLine)
    (hQ : ∀ t k, Q (.bytes b t) { s with toks := k }) :
    codeAny (model prog w) A (.call (.builtin "bytes.__new__") ⟨[.type "bytes", .ref d], []⟩) (wants Q E) s := by
  have hT : s.TypeIs (.ref d) "bytearray" := ⟨_, ho, rfl⟩
  refine codeAny_of_tree ?_
  show wpAny _ A.in1 (do checkBuiltinCall "bytes.__new__" ⟨[.type "bytes", .ref d], []⟩; again (.builtin "bytes.__new__" ⟨[.type "bytes", .ref d], []⟩)) _ _ s
  refine wpAny_bind (wpAny_of_eq (F.bm_newCall _) (wpAny_pure ⟨plainId_quiet F.bm_plain _, codeAny_builtin F.bm_entry ?_⟩))
  rw [Around.under_plainId F.bm_plain _]
  unfold Builtin.«bytes.__new__»
  refine wpAny_bind (wpAny_of_eq (a := true) rfl ?_)
  refine bm_if_false rfl ?_
  refine wpAny_bind (wpAny_of_eq F.bm_sub ?_)
  refine bm_if_false rfl ?_
  refine wpAny_bind (wpAny_of_eq (F.bm_bind _) ?_)
  refine wpAny_bind (wpAny_of_eq (a := ()) rfl ?_)
  refine wpAny_bind (wpAny_of_eq (a := ()) rfl ?_)
  refine bm_if_false rfl ?_
  refine wpAny_bind (wpAny_specialOf hT BA.look_bytes ?_)
  refine wpAny_bind (wpAny_bind ?_)
  show wpAny _ _ (load d >>= _) _ _ _
  refine wpAny_bind (wpAny_load ho ?_)
  refine wpAny_pure (wpAny_pure ?_)
  refine bm_if_false rfl ?_
  refine wpAny_bind (wpAny_specialOf hT BA.look_index ?_)
  refine bm_if_true rfl ?_
  first
    | show wpAny _ _ (Builtin.Bytes.buffer? "bytes.__new__" (.ref d) true >>= _) _ _ _
    | (refine wpAny_bind ?_; show wpAny _ _ (Builtin.Bytes.buffer? "bytes.__new__" (.ref d) true >>= _) _ _ _)
  refine wpAny_bind (buffer_ba ho ?_)
  refine wpAny_bind (wpAny_rule ?_)
  refine wpAny_bind (wpAny_mkBytes ?_ hz)
  first
    | exact wpAny_pure (hQ _ _)
    | exact wpAny_pure (wpAny_pure (hQ _ _))
    | exact wpAny_bind (wpAny_pure (wpAny_pure (hQ _ _)))

theorem call_bytes_ba {d : Addr} {b : Array UInt8} {Q : Value → Shared → Prop} (ho : s.heap.get? d = some (baObj b)) (hz : b.size ≤ sizeLine) (hQ : ∀ t k, Q (.bytes b t) { s with toks := k }) :
    wpAny (model prog w) A (call (.type "bytes") [.ref d]) Q E s := by
  refine callType_codes (Q₁ := fun obj s₁ => s₁.TypeIs obj "bytes" ∧ Q obj s₁) F.bm_called (F.bm_typeCall _) F.entry_object_init
    (ba_new ho hz fun t k => ⟨PySem.W.typeIs_bytes _ _ _, hQ t k⟩) fun obj s₁ h₁ => ?_
  exact ⟨h₁.1, F.args_object_init_2 obj _, object_init_meets F.bm_called.init.lookup F.bm_called.made (by decide) prog w A.in1 _ s₁ ⟨h₁.1, rfl, h₁.2⟩⟩

theorem by_new {b : Array UInt8} {t : Tok} {Q : Value → Shared → Prop} (hQ : Q (.bytes b t) s) :
    codeAny (model prog w) A (.call (.builtin "bytes.__new__") ⟨[.type "bytes", .bytes b t], []⟩) (wants Q E) s := by
  have hT : s.TypeIs (.bytes b t) "bytes" := PySem.W.typeIs_bytes _ _ _
  refine codeAny_of_tree ?_
  show wpAny _ A.in1 (do checkBuiltinCall "bytes.__new__" ⟨[.type "bytes", .bytes b t], []⟩; again (.builtin "bytes.__new__" ⟨[.type "bytes", .bytes b t], []⟩)) _ _ s
  refine wpAny_bind (wpAny_of_eq (F.bm_newCall _) (wpAny_pure ⟨plainId_quiet F.bm_plain _, codeAny_builtin F.bm_entry ?_⟩))
  rw [Around.under_plainId F.bm_plain _]
  unfold Builtin.«bytes.__new__»
  refine wpAny_bind (wpAny_of_eq (a := true) rfl ?_)
  refine bm_if_false rfl ?_
  refine wpAny_bind (wpAny_of_eq F.bm_sub ?_)
  refine bm_if_false rfl ?_
  refine wpAny_bind (wpAny_of_eq (F.bm_bind _) ?_)
  refine wpAny_bind (wpAny_of_eq (a := ()) rfl ?_)
  refine wpAny_bind (wpAny_of_eq (a := ()) rfl ?_)
  refine bm_if_false rfl ?_
  refine wpAny_bind (wpAny_specialOf hT BA.bytes_bytes ?_)
  refine wpAny_bind (wpAny_rule ?_)
  refine wpAny_bind (wpAny_of_eq (a := Value.type "bytes") rfl ?_)
  refine bm_if_true rfl ?_
  first
    | exact wpAny_pure hQ
    | exact wpAny_pure (wpAny_pure hQ)
    | exact wpAny_bind (wpAny_pure (wpAny_pure hQ))

theorem call_bytes_bytes {b : Array UInt8} {t : Tok} {Q : Value → Shared → Prop} (hQ : Q (.bytes b t) s) : wpAny (model prog w) A (call (.type "bytes") [.bytes b t]) Q E s := by
  refine callType_codes (Q₁ := fun obj s₁ => s₁.TypeIs obj "bytes" ∧ Q obj s₁) F.bm_called (F.bm_typeCall _) F.entry_object_init
    (by_new ⟨PySem.W.typeIs_bytes _ _ _, hQ⟩) fun obj s₁ h₁ => ?_
  exact ⟨h₁.1, F.args_object_init_2 obj _, object_init_meets F.bm_called.init.lookup F.bm_called.made (by decide) prog w A.in1 _ s₁ ⟨h₁.1, rfl, h₁.2⟩⟩

theorem call_len_ba {d : Addr} {b : Array UInt8} {Q : Value → Shared → Prop} (ho : s.heap.get? d = some (baObj b)) (hz : b.size ≤ sizeLine)
    (hQ : ∀ t k, Q (.int b.size t) { s with toks := k }) : wpAny (model prog w) A (call (.builtin "len") [.ref d]) Q E s := by
  have hT : s.TypeIs (.ref d) "bytearray" := ⟨_, ho, rfl⟩
  have hs : (sizeLine : Nat) < 2 ^ 62 := by decide
  refine call_len_slot hT BA.slot_len (fun Q' hq => wpAny_call_entry BA.slot_len hT BA.entry_len ?_ (BA.args_len _)) (n := b.size) (by omega) (by omega) (hQ _ _)
  show wpAny _ _ (do retInt (← Builtin.Bytes.payload (.ref d)).size) _ _ s
  refine wpAny_bind (payload_ba ho rfl ?_)
  exact wpAny_bind (wpAny_mkInt (wpAny_pure ⟨_, rfl, hq⟩))
end
end

section
open PySem.Calls PySem.Spec
section
variable {M : Model} {A : Around} {s : Shared} {env : Env}
theorem execS_Assign_Attribute {o attr pos' value pos} {Q : Flow → Shared → Prop}
    (h : wpS M A (eval value env) (fun v s₁ => wpAny M A (eval o env) (fun ov s₂ => wpAny M A (setAttr ov attr v) (fun _ => Q .next) (fun _ _ => False) s₂) (fun _ _ => False) s₁) s)
    (hs : swapsWith value (some (.Attribute o attr pos')) pos.line env = pure false := by rfl) :
    wpS M A (exec (.Assign [.Attribute o attr pos'] value pos) env) Q s := fun Γ p hΓ hG => by
  simp only [plainObj_exec_Assign_Attribute o attr pos' value pos hs, assign_Attribute, Sem.wp_bind', Sem.wp_holding, Sem.wp_cmd_standAt, Sem.wp_release, Sem.wp_pure']
  exact Sem.wp_mono M Γ _ (fun v p₁ s₁ h₁ => Sem.wp_mono M Γ _ (fun ov _ s₂ h₂ => h₂ Γ _ hΓ) (fun _ _ _ h' => h') _ _ (h₁ Γ p₁ hΓ)) (fun _ _ _ h' => h') _ _ (h Γ _ hΓ hG)

theorem execS_Assign_Tuple {elts k tpos value pos} {Q : Flow → Shared → Prop}
    (h : wpS M A (eval value env) (fun v s₁ => wpAny M A (assign (.Tuple elts k tpos) env v) (fun _ => Q .next) (fun _ _ => False) s₁) s)
    (hs : swapsWithSole [.Tuple elts k tpos] value pos.line env = pure false := by rfl)
    (hw : swappedStores [.Tuple elts k tpos] value env = pure none := by rfl) :
    wpS M A (exec (.Assign [.Tuple elts k tpos] value pos) env) Q s := by
  rw [exec_Assign]
  refine wpS_seq (wpAny_standAt ?_)
  rw [hs]
  refine wpS_bind (wpS_pure ?_)
  rw [if_neg (by decide)]
  refine wpS_bind (wpS_mono h (fun v s₁ h₁ => ?_))
  rw [hw]
  refine wpS_bind (wpS_pure ?_)
  show wpS M A (do assignAll v [assign (.Tuple elts k tpos) env]; pure .next) Q s₁
  exact wpS_seq (wpAny_mono h₁ (fun _ _ x => wpS_pure x) fun _ _ x => x)

theorem execS_Return {value : Expr} {pos : Pos} {Q : Flow → Shared → Prop} (h : wpAny M A (exec (.Return (some value) pos) env) Q (fun _ _ => False) s) : wpS M A (exec (.Return (some value) pos) env) Q s := wpS_of_any h
end

section
variable {prog : Program} {w : World} {A : Around} {K : Frag} {C : Addr} {s : Shared}
theorem makeS {h₀ : Heap} {L : Addr} {m : Str → Option Value} {news : List (Addr × Obj)} {pos : List Value} {fI : Addr} {Q : Value → Shared → Prop} (F : Fr h₀ L s.heap m) (X₀ : K.In h₀) (N : News h₀ L s.heap news) (hm : makesIn K C = true)
    (hi : findIn K (.ref C) "__init__" = some (some (.ref fI))) (hf : isFn K (.ref fI) = true)
    (h : ∀ x dx h', Fr h₀ L h' m → News h₀ L h' ((x, instObj C dx) :: (dx, dictOf [] 0) :: news) → (∀ p ∈ news, p.1 < dx) → dx < x →
      codeS (model prog w) (A.under (.builtin "type.__call__" ⟨.ref C :: pos, []⟩)) (.call (.ref fI) ⟨.ref x :: pos, []⟩) (fun f s' => f = .ret .none ∧ Q (.ref x) s') { s with heap := h' }) :
    wpS (model prog w) A (call (.ref C) pos) Q s := by
  have X := X₀.keeps F.keep
  obtain ⟨hh, g, d, t, os⟩ := s
  have Y := makes_of (M := model prog w) X hm
  have Y' := Y
  have hit := looks_findIn (M := model prog w) X hi
  have N' := (N.push F emptyDict).push (F.push _) (instObj C hh.objs.size)
  rw [Heap.size_push] at N'
  have z := h (hh.objs.size + 1) hh.objs.size _ ((F.push _).push _) N' (fun p hp => Heap.lt_size (N p hp).1) (Nat.lt_succ_self _)
  obtain ⟨⟨oc, od, cd, sl, hC, e1, e2, e4⟩, made, base, self, top, cal, typ⟩ := Y
  refine wpS_call (codeS_of_tree rfl ?_)
  show wpS _ _ (callAny (.ref C) _) _ _
  refine wpS_seq (wpAny_load hC ?_)
  show wpS _ _ (callAny.viaDunder (.ref C) _) _ _
  unfold callAny.viaDunder
  refine wpS_seq (cal.at ?_)
  dsimp only
  rw [tc_bind]
  refine wpS_bind (wpS_pure ?_)
  refine wpS_bind (wpS_pure ?_)
  refine wpS_pure ⟨rfl, codeS_of_tree rfl ?_⟩
  show wpS _ _ (do checkBuiltinCall "type.__call__" ⟨.ref C :: pos, []⟩; again (.builtin "type.__call__" ⟨.ref C :: pos, []⟩)) _ _
  refine wpS_seq (check_slot tc_kind tc_split typ (tc_args _ _ _) ?_)
  refine wpS_pure ⟨Code.quiet_builtin _ (by decide +kernel), codeS_builtin entry_typeCall (by decide +kernel) ?_⟩
  unfold Builtin.«type.__call__»
  have hml : Looks (model prog w) hh (mroOf (.ref C)) cd.mro := ((Looks.ld (part := none) hC).andThen .now).andThen .now
  refine wpS_ite_no rfl ?_
  refine wpS_seq (hml.at ?_)
  refine wpS_ite_no e4 ?_
  refine wpS_seq (made.at ?_)
  refine wpS_bind (wpS_pure ?_)
  refine wpS_seq (wpAny_holding (wpAny_call (new_K Y' hit (.inl rfl) ?_)))
  have k : ∀ b o, hh.get? b = some o → ((hh.push emptyDict).push (instObj C hh.objs.size)).get? b = some o := fun b o e => Heap.get?_push_of_some _ (Heap.get?_push_of_some _ e)
  have hx : ((hh.push emptyDict).push (instObj C hh.objs.size)).get? (hh.objs.size + 1) = some (instObj C hh.objs.size) := by heap_get
  have t1 : Looks (model prog w) ((hh.push emptyDict).push (instObj C hh.objs.size)) (typeOf (.ref (hh.objs.size + 1))) (.ref C) := (Looks.ld hx).andThen .now
  have i1 : Looks (model prog w) ((hh.push emptyDict).push (instObj C hh.objs.size)) (isInstance (.ref (hh.objs.size + 1)) (.ref C)) true := t1.andThen (self.keeps k)
  refine wpS_seq (i1.at ?_)
  refine wpS_ite_no rfl ?_
  refine wpS_bind (wpS_holding ?_)
  have c1 : Looks (model prog w) ((hh.push emptyDict).push (instObj C hh.objs.size)) (specialOf (.ref (hh.objs.size + 1)) "__init__") (some (.ref fI)) := t1.andThen (hit.keeps k)
  have b1 : Looks (model prog w) ((hh.push emptyDict).push (instObj C hh.objs.size)) (bindSpecial (.ref fI) (.ref (hh.objs.size + 1))) (.ref fI, [.ref (hh.objs.size + 1)]) := (bind_fn X _ (beq_iff_eq.mp hf)).keeps k
  unfold callSpecial?
  refine wpS_bind (wpS_of_any (c1.at ?_))
  refine wpS_holding ?_
  refine wpS_seq (b1.at ?_)
  refine wpS_bind (wpS_call (codeS_mono z fun f s' hf => ?_))
  obtain ⟨rfl, hq⟩ := hf
  exact wpS_pure (wpS_pure hq)
end
end

def Spec (w : World) (f : Addr) (dpn unn : Nat) (vs : List Value) (news : List (Addr × Obj)) (post : Value → List (Addr × Obj) → Prop) : Prop :=
  ∀ (dp un : Nat) (gd : Option (List Code)) (cn : Str) (cs : Scope) (a : Addr) (ccd : Value) (cl : List (Str × Addr)) (outer : List Env) (A₀ : Around) (base h₀ : Heap) (L : Addr) (m : Str → Option Value) (s : Shared) (mean : ExcName → Option Value) (mg mb : Str → Option Value)
    (Q E : Value → Shared → Prop),
    Below A₀ base outer h₀ → Fr h₀ L s.heap m → (hd.heap_39 w.params).In h₀ → News h₀ L s.heap news → Top theView (looseW theView [Str.ofString "ShapeError", Str.ofString "laid"]) mean mg mb h₀ → cs.kind = .function →
    dp + dpn < recursionLimit → un + unn < cLine →
    (∀ v news' h' tk', post v news' → Fr h₀ L h' m → News h₀ L h' news' → Q v { s with heap := h', toks := tk' }) →
    wpAny (model PySem.Challenge.pw_pb0186_01 w) (ktrTop dp un gd cn cs L a ccd cl outer) (call (.ref f) vs) Q E s

theorem Spec.use {w : World} {f : Addr} {dpn unn : Nat} {vs : List Value} {news : List (Addr × Obj)} {post : Value → List (Addr × Obj) → Prop} (S : Spec w f dpn unn vs news post)
    {dp un : Nat} {gd : Option (List Code)} {cn : Str} {cs : Scope} {a : Addr} {ccd : Value} {cl : List (Str × Addr)} {outer : List Env} {A₀ : Around} {base h₀ : Heap} {L : Addr} {m : Str → Option Value} {s : Shared} {mean : ExcName → Option Value} {mg mb : Str → Option Value}
    {Q E : Value → Shared → Prop} (B : Below A₀ base outer h₀) (F : Fr h₀ L s.heap m) (X : (hd.heap_39 w.params).In h₀) (N : News h₀ L s.heap news) (T : Top theView (looseW theView [Str.ofString "ShapeError", Str.ofString "laid"]) mean mg mb h₀) (hk : cs.kind = .function)
    (hd : dp + dpn < recursionLimit) (hu : un + unn < cLine)
    (ret : ∀ v news' h' tk', post v news' → Fr h₀ L h' m → News h₀ L h' news' → Q v { s with heap := h', toks := tk' }) :
    wpAny (model PySem.Challenge.pw_pb0186_01 w) (ktrTop dp un gd cn cs L a ccd cl outer) (call (.ref f) vs) Q E s := S _ _ _ _ _ _ _ _ _ _ _ _ _ _ _ _ _ _ _ _ B F X N T hk hd hu ret

def Stop (P : Prop) : Prop := P
theorem Stop.go {P : Prop} (h : P) : Stop P := h
theorem unstop {P : Prop} (h : Stop P) : P := h
theorem fill (P : Prop) (h : (PySem.Challenge.rw_pb0186_01 = PySem.Challenge.rw_pb0186_01) ∧ hd.heap_39 = hd.heap_39 → P) : P := h ⟨rfl, rfl⟩

local macro_rules | `(tactic| walk_at "mine start") => `(tactic| (
  refine fill _ fun hf => ?_
  revert hf
  k_fill
  intro _
  refine wpAny_call ?_
  walk_at "mine enter"))
local macro_rules | `(tactic| walk_at "mine enter") => `(tactic| k_dflt (first
  | cell_enter
  | (refine' code_def ?k1 ?k2 ?k3 ?k4 ?k5 ?kA ?kF ?kK ?k6 ?k7 ?k8 ?k9 ?kB ?_ ?c2 ?c3 ?c4 ?c5; (case kA => exact rfl); (case kF => exact rfl); (case kK => assumption); (case k1 => k_asm); (case k2 => k_asm); (case k3 => k_asm); (case k4 => k_asm); (case k5 => k_asm); (case k6 => k_is); (case k7 => k_is); (case k8 => ktr_room); (case k9 => exact binds_K (by k_in) rfl (by k_is) rfl rfl rfl); (case c5 => decide); (case kB => exact locs rfl); (case c2 => exact rfl); (case c3 => exact rfl); (case c4 => exact rfl); k_whole; intro g' L' h' FG' F' N' B' X' T'; (try dsimp only); (try k_lift B'); (try k_fold))
  | (refine' code_defC ?k1 ?k2 ?k3 ?k4 ?k5 ?kA ?kF ?kK ?k6 ?k7 ?k8 ?k9 ?kB ?kD ?_ ?c2 ?c3 ?c4; (case kA => exact rfl); (case kF => exact rfl); (case kK => assumption); (case k1 => k_asm); (case k2 => k_asm); (case k3 => k_asm); (case k4 => k_asm); (case k5 => k_asm); (case k6 => k_is); (case k7 => k_is); (case k8 => ktr_room); (case k9 => first | exact BindsTo.of_eq rfl | exact binds_K (by k_in) rfl (by k_is) rfl rfl rfl); (case kB => exact rfl); (case kD => decide +kernel); (case c2 => exact rfl); (case c3 => exact rfl); (case c4 => exact rfl); k_whole; intro g' L' h' tk' cells' FG' F' N' Y' B' X' T' l1; (try k_lt l1); k_cells Y'; (try simp only [List.cons_append, List.nil_append] at N'); (try dsimp only); (try k_lift B'); (try k_fold))))
local macro_rules | `(tactic| walk_at "mine len") => `(tactic| ((try simp only [List.length_append, List.length_cons, List.length_nil]); omega))
local macro_rules | `(tactic| walk_at "mine use") => `(tactic| first
  | k_dflt (refine' Spec.use ?S ?B ?F ?X ?N ?T ?hk ?hd ?hu ?_; (case B => k_asm); (case F => k_asm); (case X => k_asm); (case N => k_asm); (case T => k_asm); (case S => walk_at "mine spec"); (case hk => first | exact rfl | assumption); (case hd => ktr_room); (case hu => ktr_units); k_whole)
  | k_dflt (refine' Spec.use ?S ?B ?F ?X ?N ?T ?hk ?hd ?hu ?_; (case B => k_asm); (case F => k_asm); (case X => k_asm); (case N => exact rot2 (by k_asm)); (case T => k_asm); (case S => walk_at "mine spec"); (case hk => first | exact rfl | assumption); (case hd => ktr_room); (case hu => ktr_units); k_whole)
  | k_dflt (refine' Spec.use ?S ?B ?F ?X ?N ?T ?hk ?hd ?hu ?_; (case B => k_asm); (case F => k_asm); (case X => k_asm); (case N => exact rot3 (by k_asm)); (case T => k_asm); (case S => walk_at "mine spec"); (case hk => first | exact rfl | assumption); (case hd => ktr_room); (case hu => ktr_units); k_whole)
  | k_dflt (refine' Spec.use ?S ?B ?F ?X ?N ?T ?hk ?hd ?hu ?_; (case B => k_asm); (case F => k_asm); (case X => k_asm); (case N => exact rot4 (by k_asm)); (case T => k_asm); (case S => walk_at "mine spec"); (case hk => first | exact rfl | assumption); (case hd => ktr_room); (case hu => ktr_units); k_whole)
  | k_dflt (refine' Spec.use ?S ?B ?F ?X ?N ?T ?hk ?hd ?hu ?_; (case B => k_asm); (case F => k_asm); (case X => k_asm); (case N => exact cb_drop (by k_asm) (fun _ h => List.Mem.tail _ h)); (case T => k_asm); (case S => walk_at "mine spec"); (case hk => first | exact rfl | assumption); (case hd => ktr_room); (case hu => ktr_units); k_whole))
local macro_rules | `(tactic| walk_at "call ref") => `(tactic| (k_here; walk_at "mine use"; intro v9 n9 h9 tk9 hp9 F9 N9; (first | (obtain ⟨e1, e2⟩ := hp9; subst e1; subst e2) | (obtain ⟨_, e1, e2⟩ := hp9; subst e1; subst e2) | (obtain ⟨_, _, e1, e2⟩ := hp9; subst e1; subst e2) | (obtain ⟨_, ⟨_, e1, _⟩, e2⟩ := hp9; subst e1; subst e2) | (obtain ⟨_, _, _, _, _, _, e1, ⟨_, _⟩, e2⟩ := hp9; subst e1; subst e2) | (obtain ⟨_, _, _, _, e1, e2⟩ := hp9; subst e1; subst e2) | (obtain ⟨_, _, _, _, e1, _, e2⟩ := hp9; subst e1; subst e2) | (obtain ⟨_, _, _, e1, _, e2⟩ := hp9; subst e1; subst e2) | (obtain ⟨_, _, e1, _, _, _⟩ := hp9; subst e1) | (obtain ⟨_, _, _, e1, _, _, _⟩ := hp9; subst e1) | (obtain ⟨_, _, _, _, _, _, _, _, e1, ⟨_, _⟩, _, _, _, _, _, e2⟩ := hp9; subst e1; subst e2)); (try dsimp only); (try k_fold)))
local macro_rules | `(tactic| walk_at "exec For Name Subscript cons nil") => `(tactic| (k_here; (rename Fr _ _ _ _ => lF'); (with_unfolding_all refine' For_invVF lF' ?k1 ?k2 ?_; (case k1 => exact rfl); (case k2 => exact rfl); k_whole)))
local macro_rules | `(tactic| walk_at "pyIter bytes") => `(tactic| ((with_reducible show wpAny _ _ (pyIter (Value.bytes _ _)) (fun it s₂ => LoopAtV _ _ _ _ _ _ _ _ _ it s₂) _ _); k_here; k_bytesUnr))
local macro_rules | `(tactic| walk_at "UnrEnd") => `(tactic| refine unr_end (by assumption) (by assumption) (by assumption) ?_)
local macro_rules | `(tactic| walk_at "subscriptTail") => `(tactic| (k_here; (with_reducible show wpAny _ _ (subscriptTail _ (Expr.Slice _ _ none _) (Value.bytes _ _) (Value.ref _)) _ _ _); (with_reducible rename Fr _ _ _ _ => F'); (with_reducible rename News _ _ _ _ => N'); (refine slice_two (s := ⟨_, _, _, _, _⟩) F' N' (by assumption) (by omega) (by omega) (by omega) ?_); intro _ _ _ _ _ _ kbcK))
local macro_rules | `(tactic| walk_at "binaryOp LShift int int") => `(tactic| (refine sh8 (by omega) (by omega) ?_))
local macro_rules | `(tactic| walk_at "binaryOp BitOr int int") => `(tactic| (refine or8 (by omega) (by omega) (by omega) ?_))
local macro_rules | `(tactic| walk_at "eval ListComp") => `(tactic| (k_here; k_dflt (refine ListComp_W (by k_asm) (by with_unfolding_all rfl) (by decide) (by rfl) (by decide) (by rfl) ?_)))
local macro_rules | `(tactic| walk_at "CompRest") => `(tactic| (with_unfolding_all first
  | (refine LCg.CompRest.succ ?_; intro v' I' oI' C' oC' D' m' h' tk' E' hv' hC' hx' F' N' off' ne'; obtain ⟨t9', hv9'⟩ := hv'; subst hv9')
  | refine LCg.CompRest.zero ?_))
local macro_rules | `(tactic| walk_at "CompEnd") => `(tactic| (refine LCg.CompEnd.intro (by assumption) (by assumption) _ (fun _ hp => hp) (by assumption) (by trivial) ?_))
local macro_rules | `(tactic| k_all) => `(tactic| with_reducible assumption)
local macro_rules | `(tactic| walk_at "mine fill") => `(tactic| (
  refine fill _ fun hf => ?_
  revert hf
  k_fill
  intro _))
local macro_rules | `(tactic| walk_at "CompSrc") => `(tactic| (k_here; refine unstop ?_))

section
theorem spec_check_room {w : World} {news : List (Addr × Obj)} {b : Array UInt8} {t : Tok} {i c : Int} {ti tc : Tok} {ks : List Int} (hk : KBw.bInts b = ks) (h0 : 0 ≤ i) (h1 : i + c ≤ ks.length) (hb : ks.length ≤ 1000) :
    Spec w 70 2 24 [.bytes b t, .int i ti, .int c tc] news (fun v n' => v = .none ∧ news = n') := by
  unfold Spec
  intro dp un gd cn cs a ccd cl outer A₀ base h₀ L m s mean mg mb Q E B F X N T hk hd hu hret
  walk_at "mine start"
  k_steps
  all_goals exact hret _ _ _ _ ⟨rfl, rfl⟩ (by assumption) (by assumption)
end

section
local macro_rules | `(tactic| walk_at "mine spec") => `(tactic| ((with_reducible show Spec _ 70 _ _ _ _ _); exact spec_check_room (by assumption) (by omega) (by walk_at "mine len") (by walk_at "mine len")))
theorem spec_number_at {w : World} {news : List (Addr × Obj)} {b : Array UInt8} {t : Tok} {i : Int} {ti tc : Tok} {pre post : List Int} {x y : Int} (hk : KBw.bInts b = pre ++ x :: y :: post) (hi : i = pre.length) (hz : pre.length + post.length ≤ 900) :
    Spec w 77 4 48 [.bytes b t, .int i ti, .int 2 tc] news (fun v n' => ∃ t', v = .int (x * 256 + y) t' ∧ news = n') := by
  unfold Spec
  intro dp un gd cn cs a ccd cl outer A₀ base h₀ L m s mean mg mb Q E B F X N T hk hd hu hret
  walk_at "mine start"
  k_steps
  all_goals exact hret _ _ _ _ ⟨_, by rw [show (0 * 256 + x) * 256 + y = x * 256 + y by omega], rfl⟩ (by assumption) (by assumption)
end

section
theorem spec_signed {w : World} {news : List (Addr × Obj)} {n : Int} {t tb : Tok} (h0 : 0 ≤ n) (h1 : n < 65536) :
    Spec w 84 2 24 [.int n t, .int 16 tb] news (fun v n' => ∃ t', v = .int (if 32768 ≤ n then n - 65536 else n) t' ∧ news = n') := by
  unfold Spec
  intro dp un gd cn cs a ccd cl outer A₀ base h₀ L m s mean mg mb Q E B F X N T hk hd hu hret
  have e0 : n.fdiv (2 ^ ((16 : Int) - 1).toNat) = n / 32768 := by
    rw [Int.fdiv_eq_ediv_of_nonneg _ (by decide)]; rfl
  walk_at "mine start"
  k_steps
  · exact hret _ _ _ _ ⟨_, by rw [if_pos (by omega)]; rfl, rfl⟩ (by assumption) (by assumption)
  · exact hret _ _ _ _ ⟨_, by rw [if_neg (by omega)], rfl⟩ (by assumption) (by assumption)
end

section
theorem hi_octet (n : Int) (h0 : 0 ≤ n) (h1 : n < 65536) : Builtin.bitAnd (n.fdiv (2 ^ ((8 : Int) * (2 - 1 + ((0 : Nat) : Int) * -1)).toNat)) 255 = n / 256 := by
  rw [show (2 : Int) ^ ((8 : Int) * (2 - 1 + ((0 : Nat) : Int) * -1)).toNat = 256 from rfl, Int.fdiv_eq_ediv_of_nonneg _ (by decide), bitAnd_m8]
  omega
theorem lo_octet (n : Int) (h0 : 0 ≤ n) (h1 : n < 65536) : Builtin.bitAnd (n.fdiv (2 ^ ((8 : Int) * (2 - 1 + ((0 + 1 : Nat) : Int) * -1)).toNat)) 255 = n % 256 := by
  rw [show (2 : Int) ^ ((8 : Int) * (2 - 1 + ((0 + 1 : Nat) : Int) * -1)).toNat = 1 from rfl, Int.fdiv_eq_ediv_of_nonneg _ (by decide), bitAnd_m8]
  omega
theorem spec_number_octets {w : World} {news : List (Addr × Obj)} {n : Int} {t tb : Tok} (h0 : 0 ≤ n) (h1 : n < 65536) :
    Spec w 179 4 48 [.int n t, .int 2 tb] news (fun v n' => ∃ t', (∃ b, v = .bytes b t' ∧ KBw.bInts b = [n / 256, n % 256]) ∧ news = n') := by
  unfold Spec
  intro dp un gd cn cs a ccd cl outer A₀ base h₀ L m s mean mg mb Q E B F X N T hk hd hu hret
  have e0 : n.fdiv (2 ^ ((8 : Int) * 2).toNat) = 0 := by
    rw [Int.fdiv_eq_ediv_of_nonneg _ (by decide), show (2 : Int) ^ ((8 : Int) * 2).toNat = 65536 from rfl]
    omega
  walk_at "mine start"
  k_steps
  refine Stop.go ?_
  refine comp_range (n := 2) (by rfl) (by k_asm) (by k_asm) (by assumption) (by decide) (by decide) (by decide) ?_
  intro g'
  k_steps
  rename News _ _ _ _ => N9
  rw [hi_octet n h0 h1, lo_octet n h0 h1] at N9
  refine KBa.make_K (ns := [n / 256, n % 256]) (by k_asm) N9 (by rfl) (N9.isList (List.Mem.head _)) (.cons _ _ (.cons _ _ .nil)) ?_ (by simp) ?_
  · intro k hk
    simp only [List.mem_cons, List.not_mem_nil, or_false] at hk
    rcases hk with rfl | rfl <;> constructor <;> omega
  intro h9 t9 k9 F9 N9' hIn
  k_steps
  rename News h₀ L _ _ => N8
  exact hret _ _ _ _ ⟨t9, ⟨_, rfl, KBa.ints_make hIn⟩, rfl⟩ (by assumption) (cb_drop N8 fun _ h => .tail _ (.tail _ h))
end

section
abbrev inCell (b : Array UInt8) (t : Tok) (i : Int) (ti k1 k2 : Tok) (h1 h2 : Int) : Obj := dictOf [⟨h1, .str (Str.ofString "data") k1, .bytes b t⟩, ⟨h2, .str (Str.ofString "at") k2, .int i ti⟩] 2
theorem spec_in_new {w : World} {news : List (Addr × Obj)} {b : Array UInt8} {t : Tok} {i : Int} {ti : Tok} :
    Spec w 170 8 96 [.bytes b t, .int i ti] news (fun v n' => ∃ x dx k1 k2 h1 h2, v = .ref x ∧ (∀ p ∈ news, p.1 < dx) ∧ dx < x ∧ (x, instObj 170 dx) :: (dx, inCell b t i ti k1 k2 h1 h2) :: news = n') := by
  unfold Spec
  intro dp un gd cn cs a ccd cl outer A₀ base h₀ L m s mean mg mb Q E B F X N T hk hd hu hret
  refine fill _ fun hf => ?_
  revert hf
  k_fill
  intro _
  k_dflt (refine' call_cls ?k1 ?k2 ?k3 ?k4 ?k5 ?k6 ?_; (case k1 => k_asm); (case k2 => k_asm); (case k3 => k_asm); (case k4 => k_is); (case k5 => k_is); (case k6 => k_is); k_whole)
  intro x dx h' F' N' l1 l2
  have l3 : ∀ p ∈ news, p.1 ≠ dx := fun p hp => Nat.ne_of_lt (l1 p hp)
  have l4 : ∀ p ∈ news, p.1 ≠ x := fun p hp => Nat.ne_of_lt (Nat.lt_trans (l1 p hp) l2)
  k_lt2 l2
  walk_at "mine enter"
  k_steps
  all_goals exact hret _ _ _ _ ⟨x, dx, _, _, _, _, rfl, l1, l2, rfl⟩ (by assumption) (by assumption)
end

section
abbrev inLed (x dx : Addr) (b : Array UInt8) (t : Tok) (i : Int) (ti k1 k2 : Tok) (h1 h2 : Int) (rest : List (Addr × Obj)) : List (Addr × Obj) := (x, instObj 170 dx) :: (dx, inCell b t i ti k1 k2 h1 h2) :: rest

local macro_rules | `(tactic| walk_at "mine spec") => `(tactic| first
  | (with_reducible show Spec _ 70 _ _ _ _ _); exact spec_check_room (by assumption) (by omega) (by walk_at "mine len") (by walk_at "mine len")
  | (with_reducible show Spec _ 77 _ _ _ _ _); exact spec_number_at (by assumption) (by assumption) (by assumption))

theorem spec_in_need {w : World} {x dx : Addr} {b : Array UInt8} {t : Tok} {i : Int} {ti k1 k2 : Tok} {h1 h2 : Int} {rest : List (Addr × Obj)} {c : Int} {tc : Tok} {ks : List Int}
    (hk : KBw.bInts b = ks) (h0 : 0 ≤ i) (hi : i + c ≤ ks.length) (hb : ks.length ≤ 1000) :
    Spec w 106 4 48 [.ref x, .int c tc] (inLed x dx b t i ti k1 k2 h1 h2 rest) (fun v n' => v = .none ∧ inLed x dx b t i ti k1 k2 h1 h2 rest = n') := by
  unfold Spec
  intro dp un gd cn cs a ccd cl outer A₀ base h₀ L m s mean mg mb Q E B F X N T hk hd hu hret
  walk_at "mine start"
  k_steps
  all_goals exact hret _ _ _ _ ⟨rfl, rfl⟩ (by assumption) (by assumption)

theorem spec_in_number {w : World} {x dx : Addr} {b : Array UInt8} {t : Tok} {i : Int} {ti k1 k2 : Tok} {h1 h2 : Int} {rest : List (Addr × Obj)} {tc : Tok} {pre post : List Int} {y z : Int}
    (hk : KBw.bInts b = pre ++ y :: z :: post) (hi : i = pre.length) (hz : pre.length + post.length ≤ 900) (hx : x ≠ dx) (hr : ∀ p ∈ rest, p.1 ≠ dx) :
    Spec w 113 6 72 [.ref x, .int 2 tc] (inLed x dx b t i ti k1 k2 h1 h2 rest) (fun v n' => ∃ t' ti', v = .int (y * 256 + z) t' ∧ inLed x dx b t (i + 2) ti' k1 k2 h1 h2 rest = n') := by
  unfold Spec
  intro dp un gd cn cs a ccd cl outer A₀ base h₀ L m s mean mg mb Q E B F X N T hk hd hu hret
  replace hx := neN hx
  walk_at "mine start"
  k_steps
  all_goals exact hret _ _ _ _ ⟨_, _, rfl, rfl⟩ (by assumption) (by assumption)
local macro_rules | `(tactic| walk_at "mine spec") => `(tactic| first
  | (with_reducible show Spec _ 113 _ _ _ _ _); exact spec_in_number (by assumption) (by assumption) (by assumption) (by assumption) (by assumption)
  | (with_reducible show Spec _ 84 _ _ _ _ _); exact spec_signed (by assumption) (by assumption))
theorem spec_in_u16 {w : World} {x dx : Addr} {b : Array UInt8} {t : Tok} {i : Int} {ti k1 k2 : Tok} {h1 h2 : Int} {rest : List (Addr × Obj)} {pre post : List Int} {y z : Int}
    (hk : KBw.bInts b = pre ++ y :: z :: post) (hi : i = pre.length) (hz : pre.length + post.length ≤ 900) (hx : x ≠ dx) (hr : ∀ p ∈ rest, p.1 ≠ dx) :
    Spec w 127 8 96 [.ref x] (inLed x dx b t i ti k1 k2 h1 h2 rest) (fun v n' => ∃ t' ti', v = .int (y * 256 + z) t' ∧ inLed x dx b t (i + 2) ti' k1 k2 h1 h2 rest = n') := by
  unfold Spec
  intro dp un gd cn cs a ccd cl outer A₀ base h₀ L m s mean mg mb Q E B F X N T hk hd hu hret
  walk_at "mine start"
  k_steps
  all_goals exact hret _ _ _ _ ⟨_, _, rfl, rfl⟩ (by assumption) (by assumption)
theorem spec_in_i16 {w : World} {x dx : Addr} {b : Array UInt8} {t : Tok} {i : Int} {ti k1 k2 : Tok} {h1 h2 : Int} {rest : List (Addr × Obj)} {pre post : List Int} {y z : Int}
    (hk : KBw.bInts b = pre ++ y :: z :: post) (hi : i = pre.length) (hz : pre.length + post.length ≤ 900) (hx : x ≠ dx) (hr : ∀ p ∈ rest, p.1 ≠ dx) (hy : 0 ≤ y * 256 + z) (hy2 : y * 256 + z < 65536) :
    Spec w 134 8 96 [.ref x] (inLed x dx b t i ti k1 k2 h1 h2 rest) (fun v n' => ∃ t' ti', v = .int (if 32768 ≤ y * 256 + z then y * 256 + z - 65536 else y * 256 + z) t' ∧ inLed x dx b t (i + 2) ti' k1 k2 h1 h2 rest = n') := by
  unfold Spec
  intro dp un gd cn cs a ccd cl outer A₀ base h₀ L m s mean mg mb Q E B F X N T hk hd hu hret
  walk_at "mine start"
  k_steps
  all_goals exact hret _ _ _ _ ⟨_, _, rfl, rfl⟩ (by assumption) (by assumption)
end

section
abbrev flatP (ps : List (Int × Int)) : List Int := ps.flatMap fun p => [p.1, p.2]
abbrev valP (p : Int × Int) : Int := p.1 * 256 + p.2
theorem flatP_len (ps : List (Int × Int)) : (flatP ps).length = 2 * ps.length := by
  induction ps with
  | nil => rfl
  | cons p ps ih => simp only [flatP, List.flatMap_cons, List.length_append, List.length_cons, List.length_nil] at *; omega
theorem flatP_at {ps : List (Int × Int)} {i : Nat} (h : i < ps.length) : flatP ps = flatP (ps.take i) ++ ps[i].1 :: ps[i].2 :: flatP (ps.drop (i + 1)) := by
  have e : ps = ps.take i ++ ps[i] :: ps.drop (i + 1) := by simp
  conv => lhs; rw [e]
  simp only [flatP, List.flatMap_append, List.flatMap_cons, List.cons_append, List.nil_append]

theorem allLt_mem {d : Addr} : ∀ {l : List (Addr × Obj)}, AllLt d l → ∀ p ∈ l, p.1 < d
  | [], _, _, h => nomatch h
  | q :: r, h, p, hp => by
    rcases List.mem_cons.mp hp with rfl | hp
    · exact h.1
    · exact allLt_mem h.2 p hp
theorem news_rot3 {h₀ h : Heap} {L : Addr} {a b c : Addr × Obj} {r : List (Addr × Obj)} (N : News h₀ L h (a :: b :: c :: r)) : News h₀ L h (b :: c :: a :: r) := fun p hp => N p (by
  simp only [List.mem_cons] at hp ⊢
  rcases hp with h | h | h | h
  · exact .inr (.inl h)
  · exact .inr (.inr (.inl h))
  · exact .inl h
  · exact .inr (.inr (.inr h)))
theorem news_in5 {h₀ h : Heap} {L : Addr} {a b c d e : Addr × Obj} {r : List (Addr × Obj)} (N : News h₀ L h (a :: b :: c :: d :: e :: r)) : News h₀ L h (d :: e :: a :: b :: c :: r) := fun p hp => N p (by
  simp only [List.mem_cons] at hp ⊢
  rcases hp with h | h | h | h | h | h <;> simp [h])
theorem news_in5' {h₀ h : Heap} {L : Addr} {a b c d e : Addr × Obj} {r : List (Addr × Obj)} (N : News h₀ L h (d :: e :: a :: b :: c :: r)) : News h₀ L h (a :: b :: c :: d :: e :: r) := fun p hp => N p (by
  simp only [List.mem_cons] at hp ⊢
  rcases hp with h | h | h | h | h | h <;> simp [h])
theorem in_cell {g h : Heap} {L : Addr} {o : Obj} {x dx : Addr} {b : Array UInt8} {t : Tok} {i : Int} {ti k1 k2 : Tok} {h1 h2 : Int} {rest : List (Addr × Obj)} (N : News g L h ((L + 1, o) :: inLed x dx b t i ti k1 k2 h1 h2 rest)) (l : x < L ∧ dx < L ∧ AllLt L rest)
    (hr : ∀ p ∈ rest, p.1 ≠ dx) : News g L h (inLed x dx b t i ti k1 k2 h1 h2 ((L + 1, o) :: rest)) ∧ ∀ p ∈ (L + 1, o) :: rest, p.1 ≠ dx := ⟨news_rot3 N, fun p hp => by
    rcases List.mem_cons.mp hp with rfl | hp
    · exact Nat.ne_of_gt (Nat.lt_succ_of_lt l.2.1)
    · exact hr p hp⟩
local macro_rules | `(tactic| walk_at "mine spec") => `(tactic| first
  | (with_reducible show Spec _ 106 _ _ _ _ _); exact spec_in_need (by assumption) (by omega) (by assumption) (by assumption)
  | (with_reducible show Spec _ 113 _ _ _ _ _); exact spec_in_number (by assumption) (by assumption) (by assumption) (by assumption) (by assumption)
  | (with_reducible show Spec _ 84 _ _ _ _ _); exact spec_signed (by assumption) (by assumption))
local macro_rules | `(tactic| walk_at "mine spec") => `(tactic| ((with_reducible show Spec _ 127 _ _ _ _ _); exact spec_in_u16 (by assumption) (by assumption) (by assumption) (by assumption) (by assumption)))
theorem spec_in_rows {w : World} {x dx : Addr} {b : Array UInt8} {t : Tok} {i : Int} {ti k1 k2 : Tok} {h1 h2 : Int} {rest : List (Addr × Obj)} {pre post : List Int} {ps : List (Int × Int)} {c : Int} {tc : Tok}
    (hk : KBw.bInts b = pre ++ flatP ps ++ post) (hi : i = pre.length) (hc : c = ps.length) (hz : pre.length + 2 * ps.length + post.length ≤ 900) (hx : x ≠ dx) (hr : ∀ p ∈ rest, p.1 ≠ dx) :
    Spec w 160 12 120 [.ref x, .int c tc] (inLed x dx b t i ti k1 k2 h1 h2 rest) (fun v n' => ∃ l ti' vs k, v = .ref l ∧ IntsAre vs (ps.map valP) ∧ (l, lobj vs k) :: inLed x dx b t (i + 2 * c) ti' k1 k2 h1 h2 rest = n') := by
  unfold Spec
  intro dp un gd cn cs a ccd cl outer A₀ base h₀ L m s mean mg mb Q E B F X N T hk' hd hu hret
  have hlen : (pre ++ flatP ps ++ post).length ≤ 1000 := by simp only [List.length_append, flatP_len]; omega
  have hi2 : i + 2 * c ≤ ((pre ++ flatP ps ++ post).length : Int) := by simp only [List.length_append, flatP_len]; omega
  have hi3 : 0 ≤ i := by omega
  walk_at "mine start"
  rename News _ _ _ _ => N9
  rename_i g9 L9 h9 tk9 FG9 F9 B9 X9 T9 l9 o9 d9
  obtain ⟨N8, hr2⟩ := in_cell N9 l9 hr
  clear N9
  k_steps
  refine Stop.go ?_
  refine comp_range (n := ps.length) (by rfl) (by k_asm) (by k_asm) (by assumption) (small_one (by omega) (by omega) (by omega) (by omega)) (by rw [rangeSize_one]; split <;> omega) (by have : (sizeLine : Nat) = 2 ^ 24 := rfl; omega) ?_
  intro g8
  refine comp_inv (fun i' ys n' => ∃ ti', n' = inLed x dx b t (i + 2 * (i' : Int)) ti' k1 k2 h1 h2 ((L9 + 1, o9) :: rest) ∧ IntsAre ys ((ps.take i').map valP)) ?_ ?_ _ _ _ _ (Nat.zero_add _) ⟨ti, by rw [show i + 2 * ((0 : Nat) : Int) = i by omega], by simpa using IntsAre.nil⟩
  · intro i' ys news v I oI C oC D m₂ h tk E' hlt hJ hP hC hx' F' N' off ne
    obtain ⟨ti', rfl, hI⟩ := hJ
    have hk2 : KBw.bInts b = (pre ++ flatP (ps.take i')) ++ ps[i'].1 :: ps[i'].2 :: (flatP (ps.drop (i' + 1)) ++ post) := by rw [hk, flatP_at hlt]; simp only [List.append_assoc, List.cons_append]
    have hi4 : i + 2 * (i' : Int) = (pre ++ flatP (ps.take i')).length := by rw [List.length_append, flatP_len, List.length_take]; omega
    have hz2 : (pre ++ flatP (ps.take i')).length + (flatP (ps.drop (i' + 1)) ++ post).length ≤ 900 := by simp only [List.length_append, flatP_len, List.length_take, List.length_drop]; omega
    have hr3 : ∀ p ∈ (I, oI) :: (C, oC) :: (D, LCg.lst ys) :: (L9 + 1, o9) :: rest, p.1 ≠ dx := fun p hp => by
      rcases List.mem_cons.mp hp with rfl | hp
      · exact Ne.symm off.2.1.1
      rcases List.mem_cons.mp hp with rfl | hp
      · exact Ne.symm off.2.1.2.1
      rcases List.mem_cons.mp hp with rfl | hp
      · exact Ne.symm off.2.1.2.2
      exact hr2 p hp
    have N2 : News g9 L9 h (inLed x dx b t (i + 2 * (i' : Int)) ti' k1 k2 h1 h2 ((I, oI) :: (C, oC) :: (D, LCg.lst ys) :: (L9 + 1, o9) :: rest)) := news_in5 N'
    clear N' N8
    k_steps
    rename News _ _ _ (inLed _ _ _ _ (_ + _) _ _ _ _ _ _) => N7
    have N6 := news_in5' N7
    rw [show i + 2 * (i' : Int) + 2 = i + 2 * ((i' + 1 : Nat) : Int) by omega] at N6
    refine LCg.CompEnd.intro (by assumption) N6 _ (fun _ hp => hp) off trivial ⟨_, rfl, ?_⟩
    have e2 : (ps.take (i' + 1)).map valP = (ps.take i').map valP ++ [valP ps[i']] := by rw [List.take_succ_eq_append_getElem hlt, List.map_append]; rfl
    rw [e2]
    exact IntsAre.append hI (.cons _ _ .nil)
  · rintro ys news ⟨ti', rfl, hI⟩
    intro D h tk F' N' off
    k_steps
    rename News _ _ _ ((D, _) :: _) => N7
    refine hret _ _ _ _ ⟨D, ti', ys, ys.length, rfl, by rw [List.take_length] at hI; exact hI, rfl⟩ (by assumption) (cb_drop N7 ?_)
    intro p hp
    rw [hc] at hp
    rcases List.mem_cons.mp hp with rfl | hp
    · exact .head _
    rcases List.mem_cons.mp hp with rfl | hp
    · exact .tail _ (.head _)
    rcases List.mem_cons.mp hp with rfl | hp
    · exact .tail _ (.tail _ (.head _))
    exact .tail _ (.tail _ (.tail _ (.tail _ hp)))
end

section
open PySem.Calls PySem.Spec
section
variable {prog : Program} {w : World} {A : Around} {K : Frag} {s : Shared} {env : Env} {f : Value} {first : List Value} {pos : Pos} {Q : Value → Shared → Prop}
theorem callWithS_of {args : List (Bool × Sem Value)} (hplain : args.any (·.1) = false) (hk : keepIn K f = true)
    (h : wpS (model prog w) A (evalArgs f true args []) (fun a s₁ => K.In s₁.heap ∧ wpS (model prog w) A (call f (first ++ a.pos) a.kw) Q s₁) s) : wpS (model prog w) A (callWith pos f first args []) Q s := by
  unfold callWith
  refine wpS_bind (wpS_holding (wpS_mono h fun a s₁ h₁ => wpS_seq (wpAny_standAt ?_)))
  obtain ⟨k, hk', L⟩ := looks_keep (M := model prog w) hk h₁.1
  simp only [hplain, List.any_nil, Bool.or_false]
  refine wpS_seq (L.here ?_)
  have tail : ∀ {t : Sem Value}, wpS (model prog w) A t Q s₁ → wpS (model prog w) A (t >>= fun r => holding [r] point >>= fun _ => pure r) Q s₁ :=
    fun ht => wpS_bind (wpS_mono ht fun r s₂ hr => wpS_seq (wpAny_holding (wpAny_point (wpS_pure hr))))
  have marked (mk : Value) : wpS (model prog w) A (callMarked mk f (first ++ a.pos) a.kw) Q s₁ := by unfold callMarked; exact wpS_keep h₁.2
  rcases hk' with rfl | rfl <;> dsimp only <;> first | exact tail h₁.2 | (split <;> first | exact tail h₁.2 | exact tail (marked _))
theorem callWithS_K0 (hk : keepIn K f = true) (X : K.In s.heap) (h : wpS (model prog w) A (call f (first ++ [])) Q s) : wpS (model prog w) A (callWith pos f first (backTo pos (starEach [] env)) []) Q s :=
  callWithS_of rfl hk (wpS_of_any (evalArgs_nil3 ⟨X, h⟩))
theorem callWithS_K {h₀ : Heap} {e : Expr} {rest : List Expr} (_X : K.In h₀) (hk : keepIn K f = true) (h : wpAny (model prog w) A (spliced (backTo pos (starEach (e :: rest) env))) (fun vs s₁ => K.In s₁.heap ∧ wpS (model prog w) A (call f (first ++ vs)) Q s₁) (fun _ _ => False) s)
    (he : starEach (e :: rest) env = (false, eval e env) :: starEach rest env := by rfl) (hplain : (backTo pos (starEach rest env)).any (·.1) = false := by rfl) :
    wpS (model prog w) A (callWith pos f first (backTo pos (starEach (e :: rest) env)) []) Q s := by
  rw [he] at h ⊢
  exact callWithS_of (by show (false || (backTo pos (starEach rest env)).any (·.1)) = false; rw [hplain]; rfl) hk (wpS_of_any (evalArgs_plain h))
theorem callWithS_KS {h₀ : Heap} {e : Expr} {rest : List Expr} (_X : K.In h₀) (hk : keepIn K f = true) (h : wpS (model prog w) A (spliced (backTo pos (starEach (e :: rest) env))) (fun vs s₁ => K.In s₁.heap ∧ wpS (model prog w) A (call f (first ++ vs)) Q s₁) s)
    (he : starEach (e :: rest) env = (false, eval e env) :: starEach rest env := by rfl) (hplain : (backTo pos (starEach rest env)).any (·.1) = false := by rfl) :
    wpS (model prog w) A (callWith pos f first (backTo pos (starEach (e :: rest) env)) []) Q s := by
  rw [he] at h ⊢
  exact callWithS_of (by show (false || (backTo pos (starEach rest env)).any (·.1)) = false; rw [hplain]; rfl) hk (evalArgsS (h := h))
theorem callWithS_B {id : String} {e : Expr} {rest : List Expr} (h : wpAny (model prog w) A (spliced (backTo pos (starEach (e :: rest) env))) (fun vs s₁ => wpS (model prog w) A (call (.builtin id) (first ++ vs)) Q s₁) (fun _ _ => False) s)
    (he : starEach (e :: rest) env = (false, eval e env) :: starEach rest env := by rfl) (hplain : (backTo pos (starEach rest env)).any (·.1) = false := by rfl) :
    wpS (model prog w) A (callWith pos (.builtin id) first (backTo pos (starEach (e :: rest) env)) []) Q s := by
  rw [he] at h ⊢
  exact callWithS_builtin (by show (false || (backTo pos (starEach rest env)).any (·.1)) = false; rw [hplain]; rfl) (wpS_of_any (evalArgs_plain h))
theorem callWithS_T0 {n : String} (h : wpS (model prog w) A (call (.type n) []) Q s) : wpS (model prog w) A (callWith pos (.type n) [] (backTo pos (starEach [] env)) []) Q s :=
  callWithS_type rfl (wpS_of_any (evalArgs_nil3 h))
end

/-- the contract in wpS -/
def SpecS (w : World) (f : Addr) (dpn unn : Nat) (vs : List Value) (news : List (Addr × Obj)) (post : Value → List (Addr × Obj) → Prop) : Prop :=
  ∀ (dp un : Nat) (gd : Option (List Code)) (cn : Str) (cs : Scope) (a : Addr) (ccd : Value) (cl : List (Str × Addr)) (outer : List Env) (A₀ : Around) (base h₀ : Heap) (L : Addr) (m : Str → Option Value) (s : Shared) (mean : ExcName → Option Value) (mg mb : Str → Option Value)
    (Q : Value → Shared → Prop),
    Below A₀ base outer h₀ → Fr h₀ L s.heap m → (hd.heap_39 w.params).In h₀ → News h₀ L s.heap news → Top theView (looseW theView [Str.ofString "ShapeError", Str.ofString "laid"]) mean mg mb h₀ → cs.kind = .function →
    dp + dpn < recursionLimit → un + unn < cLine →
    (∀ v news' h' tk', post v news' → Fr h₀ L h' m → News h₀ L h' news' → Q v { s with heap := h', toks := tk' }) →
    wpS (model PySem.Challenge.pw_pb0186_01 w) (ktrTop dp un gd cn cs L a ccd cl outer) (call (.ref f) vs) Q s

theorem SpecS.use {w : World} {f : Addr} {dpn unn : Nat} {vs : List Value} {news : List (Addr × Obj)} {post : Value → List (Addr × Obj) → Prop} (S : SpecS w f dpn unn vs news post)
    {dp un : Nat} {gd : Option (List Code)} {cn : Str} {cs : Scope} {a : Addr} {ccd : Value} {cl : List (Str × Addr)} {outer : List Env} {A₀ : Around} {base h₀ : Heap} {L : Addr} {m : Str → Option Value} {s : Shared} {mean : ExcName → Option Value} {mg mb : Str → Option Value}
    {Q : Value → Shared → Prop} (B : Below A₀ base outer h₀) (F : Fr h₀ L s.heap m) (X : (hd.heap_39 w.params).In h₀) (N : News h₀ L s.heap news) (T : Top theView (looseW theView [Str.ofString "ShapeError", Str.ofString "laid"]) mean mg mb h₀) (hk : cs.kind = .function)
    (hd : dp + dpn < recursionLimit) (hu : un + unn < cLine)
    (ret : ∀ v news' h' tk', post v news' → Fr h₀ L h' m → News h₀ L h' news' → Q v { s with heap := h', toks := tk' }) :
    wpS (model PySem.Challenge.pw_pb0186_01 w) (ktrTop dp un gd cn cs L a ccd cl outer) (call (.ref f) vs) Q s := S _ _ _ _ _ _ _ _ _ _ _ _ _ _ _ _ _ _ _ B F X N T hk hd hu ret
end

section
open PySem.Calls PySem.Spec
open LCg
section
variable {M : Model} {A : Around} {s : Shared} {env : Env}
theorem wpS_attempt {α : Type} {m : Sem α} {Q : Except Value α → Shared → Prop} (h : wpS M A m (fun a => Q (.ok a)) s) : wpS M A m.attempt Q s := fun Γ p hΓ hG => by
  rw [Sem.wp_attempt]
  exact Sem.wp_mono M Γ m (fun _ _ _ h' => h') (fun _ _ _ h' => h'.elim) p s (h Γ p hΓ hG)
theorem wpS_standIf {α : Type} {c : Prop} [Decidable c] {pos : Pos} {k : PUnit → Sem α} {Q : α → Shared → Prop} (h : wpS M A (k ()) Q s) : wpS M A (if c then (standAt pos >>= k) else k ()) Q s := by
  split
  · exact wpS_seq (wpAny_standAt h)
  · exact h
end
section
variable {prog : Program} {w : World} {A : Around} {s : Shared} {env : Env} {h₀ : Heap} {L : Addr} {m : Str → Option Value}
theorem comprehension_S {e : Expr} {scope : Scope} {pos : Pos} {newAcc first : Sem Value} {g : Comprehension} {gs : List Comprehension} {cl : List (Str × Addr)} {Q : Value → Shared → Prop}
    (hcl : clausesOf e = g :: gs) (hs : ∀ x, foldedSetIterable g.iter env x = pure x) (hclos : closureFor scope env = pure cl)
    (hkind : scope.kind = .function) (hnames : ∀ x ∈ scope.names, x.2 = .local → scope.names.lookup x.1 = some .local)
    (h : wpAny (model prog w) A first (fun x s₁ => wpAny (model prog w) A (pyIter x) (fun it s₂ => wpAny (model prog w) A newAcc (fun acc s₃ =>
      wpAny (model prog w) A (newFunctionEnv scope env.globals cl [] env.qual none .none (some env)) (fun cenv s₄ =>
        codeS (model prog w) A (.compStart e 0 it acc { cenv with scope := relabel scope env }) (fun _ s' => ∃ m, s'.heap.Ns cenv.locals m ∧ ∀ h', Heap.SameBut cenv.locals s'.heap h' → Q acc { s' with heap := h' }) s₄) (fun _ _ => False) s₃) (fun _ _ => False) s₂) (fun _ _ => False) s₁) (fun _ _ => False) s) :
    wpS (model prog w) A (comprehension e scope env pos newAcc false first none) Q s := by
  unfold comprehension
  rw [hclos, hcl]
  refine wpS_seq (wpAny_mono h (fun x s₁ h₁ => wpS_seq (wpAny_standAt (wpS_seq (wpAny_of_eq (hs x) (wpS_seq (wpAny_holding (wpAny_mono h₁ (fun it s₂ h₂ =>
    wpS_standIf (wpS_seq (wpAny_mono h₂ (fun acc s₃ h₃ => wpS_bind (wpS_pure (wpS_seq (wpAny_mono h₃ (fun cenv s₄ h₄ => ?_) fun _ _ h' => h')))) fun _ _ h' => h')))
      fun _ _ h' => h'))))))) fun _ _ h' => h')
  dsimp only
  have hv : ∀ x ∈ (scope.names.filter fun x => (x.2 == .local || x.2 == .cell) && x.1 != (".0" : Str)).reverse, x.2 = .local →
      Env.kindOf { cenv with scope := relabel scope env } x.1 = some .local := fun x hx hl => lookup_relabel_local (hnames x (List.mem_filter.mp (List.mem_reverse.mp hx)).1 hl)
  refine wpS_holding (wpS_bind (wpS_attempt (wpS_holding (wpS_run (codeS_mono h₄ fun f s' hr => ?_)))))
  obtain ⟨m, hn, hr⟩ := hr
  exact wpS_seq (wpAny_holding (wpAny_comp_letGo (cenv := { cenv with scope := relabel scope env }) hkind _ s' m hv hn fun h' m' _ hs' => wpS_pure (hr h' hs')))

theorem compLoop_S {elt target iter : Expr} {scope : Scope} {pos : Pos} {it acc : Value} {env : Env} {R : Flow → Shared → Prop} (I : Nat → Shared → Prop)
    (turn : ∀ n s, I n s → wpAny (model prog w) A (pyNext it) (fun r s₁ => match r with
      | none => R .next s₁
      | some v => wpAny (model prog w) A (assign target env v) (fun _ s₂ => wpS (model prog w) A (eval elt env) (fun x s₄ =>
          wpAny (model prog w) A (call (.builtin "list.append") [acc, x]) (fun _ s₅ => ∃ m, m < n ∧ I m s₅) (fun _ _ => False) s₄) s₂) (fun _ _ => False) s₁) (fun _ _ => False) s)
    (n : Nat) (h : I n s) (ht : ∀ v, letOwnedTupleGo target it v = pure () := by intro _; rfl) :
    codeS (model prog w) A (.compLoop (.ListComp elt [⟨target, iter, [], 0⟩] scope pos) 0 it acc env) R s := by
  refine codeS_loop rfl I (fun n s hI => ?_) n h
  show wpS _ A ((compTurn (.ListComp elt [⟨target, iter, [], 0⟩] scope pos) 0 it acc env).onRaise (fun x => do noteFrame x env; theTreesLotGoes x)) _ s
  refine wpS_onRaise ?_
  rw [compTurn_list]
  refine wpS_seq (wpAny_standAt (wpS_seq (wpAny_mono (turn n s hI) (fun r s₁ h₁ => ?_) fun _ _ h' => h')))
  cases r with
  | none => exact wpS_pure h₁
  | some v =>
    refine wpS_seq (wpAny_of_eq (ht v) ?_)
    refine wpS_seq (wpAny_mono h₁ (fun _ s₂ h₂ => ?_) fun _ _ h' => h')
    refine wpS_seq (wpAny_tests_nil ?_)
    simp only [if_true]
    exact wpS_bind (wpS_bind (wpS_mono h₂ fun x s₄ h₄ => wpS_seq (wpAny_mono h₄ (fun _ s₅ h₅ => wpS_pure (wpS_pure (.inl ⟨rfl, rfl, h₅⟩))) fun _ _ h' => h')))

theorem compStart_S {elt target iter : Expr} {scope : Scope} {pos : Pos} {it acc : Value} {env : Env} {R : Flow → Shared → Prop}
    (h0 : codeS (model prog w) A (.compLoop (.ListComp elt [⟨target, iter, [], 0⟩] scope pos) 0 it acc env) R s)
    (h : wpAny (model prog w) A (pyIter it) (fun it' s' => codeS (model prog w) A (.compLoop (.ListComp elt [⟨target, iter, [], 0⟩] scope pos) 0 it' acc env) R s') (fun _ _ => False) s) :
    codeS (model prog w) A (.compStart (.ListComp elt [⟨target, iter, [], 0⟩] scope pos) 0 it acc env) R s := by
  refine codeS_of_tree rfl ?_
  show wpS _ _ ((compStart (.ListComp elt [⟨target, iter, [], 0⟩] scope pos) 0 it acc env).onRaise (fun x => do noteFrame x env; standAt theWindowsPlace)) _ s
  refine wpS_onRaise ?_
  unfold compStart
  show wpS _ _ (ask >>= _) _ s
  refine wpS_seq (wpAny_askSetting ?_)
  split
  · first
      | exact wpS_bind (wpS_pure (wpS_pure (And.intro rfl h0)))
      | exact wpS_pure (And.intro rfl h0)
  · refine wpS_seq (wpAny_rule ?_)
    show wpS _ _ (standAt _ >>= _) _ _
    exact wpS_seq (wpAny_standAt (wpS_seq (wpAny_mono h (fun it' s' h' => wpS_pure (And.intro rfl h')) fun _ _ h' => h')))

def CompAtS (prog : Program) (w : World) (A : Around) (env : Env) (elt iter : Expr) (x : Str) (px : Pos) (scope : Scope) (cl : List (Str × Addr)) (pos : Pos) (Q : Value → Shared → Prop) (it : Value) (s₂ : Shared) : Prop :=
  wpAny (model prog w) A (newList []) (fun acc s₃ => wpAny (model prog w) A (newFunctionEnv scope env.globals cl [] env.qual none .none (some env)) (fun cenv s₄ =>
    codeS (model prog w) A (.compStart (.ListComp elt [⟨.Name x px, iter, [], 0⟩] scope pos) 0 it acc { cenv with scope := relabel scope env }) (fun _ s' => ∃ m, s'.heap.Ns cenv.locals m ∧ ∀ h', Heap.SameBut cenv.locals s'.heap h' → Q acc { s' with heap := h' }) s₄) (fun _ _ => False) s₃) (fun _ _ => False) s₂

theorem ListComp_S {elt iter : Expr} {x : Str} {px : Pos} {scope : Scope} {cl : List (Str × Addr)} {pos : Pos} {Q : Value → Shared → Prop}
    (hclos : closureFor scope env = pure cl) (hkind : scope.kind = .function) (hnames : ∀ y ∈ scope.names, y.2 = .local → scope.names.lookup y.1 = some .local)
    (h : wpAny (model prog w) A (eval iter env) (fun xv s₁ => wpAny (model prog w) A (pyIter xv) (CompAtS prog w A env elt iter x px scope cl pos Q) (fun _ _ => False) s₁) (fun _ _ => False) s)
    (hs : ∀ x, foldedSetIterable iter env x = pure x := by intro _; rfl) : wpS (model prog w) A (eval (.ListComp elt [⟨.Name x px, iter, [], 0⟩] scope pos) env) Q s := by
  rw [eval_ListComp]
  exact comprehension_S rfl hs hclos hkind hnames h

theorem comp_list_S {elt iter : Expr} {x : Str} {px : Pos} {scope : Scope} {cl : List (Str × Addr)} {pos : Pos} {Q : Value → Shared → Prop} {l : Addr} {vs : List Value} {k : Nat} {news : List (Addr × Obj)}
    (J : Nat → List Value → List (Addr × Obj) → Prop) (hh : A.handled = none) (hcell : ∀ y ∈ scope.names, y.2 ≠ .cell) (hkind : scope.kind = .function) (hx : scope.names.lookup x = some .local)
    (F : Fr h₀ L s.heap m) (N : News h₀ L s.heap news) (hl : (l, lobj vs k) ∈ news) (hsz : vs.length ≤ sizeLine) (h0 : J 0 [] news)
    (turn : ∀ i v ys nx I oI C oC D m₂ h tk, vs[i]? = some v → J i ys nx → (l, lobj vs k) ∈ nx → NsObj oC m₂ → m₂ x = some v → Fr h₀ L h m → News h₀ L h ((I, oI) :: (C, oC) :: (D, lst ys) :: nx) → Off3 I C D nx → ((@Ne Nat I C) ∧ (@Ne Nat I D) ∧ (@Ne Nat C D)) →
      wpS (model prog w) A (eval elt (compEnvC scope cl C env)) (CompEnd h₀ L m { s with heap := h, toks := tk } I oI C oC D (lst ys) (fun nw => (l, lobj vs k) ∈ nw) (fun y nx' => J (i + 1) (ys ++ [y]) nx')) { s with heap := h, toks := tk })
    (done : ∀ D ys nx h tk, J vs.length ys nx → Fr h₀ L h m → News h₀ L h ((D, lst ys) :: nx) → Off1 D nx → Q (.ref D) { s with heap := h, toks := tk }) :
    wpAny (model prog w) A (pyIter (.ref l)) (CompAtS prog w A env elt iter x px scope cl pos Q) (fun _ _ => False) s := by
  have hls : s.heap.IsList l vs.toArray := ⟨_, (N _ hl).1, rfl, k, rfl⟩
  refine wpAny_pyIter_list hls ?_
  have hlt : ∀ p ∈ news, p.1 < s.heap.objs.size := fun p hp => Heap.lt_size (N p hp).1
  have hne : l ≠ s.heap.objs.size := Nat.ne_of_lt (hlt _ hl)
  have W := Walks.list (prog := prog) (w := w) hh s.heap.objs.size l hne vs.toArray
  have hIo : ∀ (i : Nat) (h : Heap), (h.IsListIter s.heap.objs.size l i ∧ h.IsList l vs.toArray) → ∃ o, h.get? s.heap.objs.size = some o := fun i h st => let ⟨o, e, _⟩ := st.1; ⟨o, e⟩
  -- the state after the iterator
  have hst : (s.heap.push { cls := .type "list_iterator", data := .fields #[.ref l, .int 0 0] }).IsListIter s.heap.objs.size l 0 ∧ (s.heap.push { cls := .type "list_iterator", data := .fields #[.ref l, .int 0 0] }).IsList l vs.toArray :=
    ⟨⟨_, Heap.get?_push_size _ rfl, rfl, rfl⟩, hls.push _⟩
  generalize hH1 : s.heap.push { cls := .type "list_iterator", data := .fields #[.ref l, .int 0 0] } = H1 at hst ⊢
  have hs1 : H1.objs.size = s.heap.objs.size + 1 := by rw [← hH1, Heap.size_push]
  have old1 : ∀ b o, s.heap.get? b = some o → H1.get? b = some o := fun b o e => hH1 ▸ Heap.get?_push_of_some _ e
  refine wpAny_newObj_type (wpAny_newFunctionEnv hcell (by intro y hy; simp at hy) (fun h₁ hns₁ hsb₁ => ?_) hkind)
  dsimp only at hns₁ hsb₁ ⊢
  generalize hH2 : H1.push { cls := .type "list", dict := none, data := .seq ([] : List Value).toArray } = H2 at hns₁ hsb₁ ⊢
  have hC : H2.objs.size = H1.objs.size + 1 := by rw [← hH2, Heap.size_push]
  have hDC : H1.objs.size ≠ H2.objs.size := by rw [hC]; exact Nat.ne_of_lt (Nat.lt_succ_self _)
  have below : ∀ b, b < H1.objs.size → b ≠ H2.objs.size ∧ b ≠ H1.objs.size := fun b hb => ⟨by rw [hC]; exact Nat.ne_of_lt (Nat.lt_succ_of_lt hb), Nat.ne_of_lt hb⟩
  have low : ∀ b, b < s.heap.objs.size → b < H1.objs.size := fun b hb => by rw [hs1]; exact Nat.lt_succ_of_lt hb
  have hI1 : s.heap.objs.size < H1.objs.size := by rw [hs1]; exact Nat.lt_succ_self _
  have old : ∀ b o, H1.get? b = some o → h₁.get? b = some o := fun b o e => hsb₁.extBut b o (below b (Heap.lt_size e)).1 (Heap.get?_push_of_some _ (hH2 ▸ Heap.get?_push_of_some _ e))
  have hacc : h₁.get? H1.objs.size = some (lst []) := hsb₁.extBut _ _ hDC (Heap.get?_push_of_some _ (hH2 ▸ Heap.get?_push_size _ rfl))
  have fresh₀ : ∀ a, s.heap.objs.size ≤ a → h₀.get? a = none := fun a ha => by
    cases e : h₀.get? a with
    | none => rfl
    | some o' => exact absurd (Heap.lt_size (F.keep a o' e)) (Nat.not_lt.mpr ha)
  have hI₀ : h₀.get? s.heap.objs.size = none := fresh₀ _ (Nat.le_refl _)
  have hD₀ : h₀.get? H1.objs.size = none := fresh₀ _ (Nat.le_of_lt hI1)
  have hC₀ : h₀.get? H2.objs.size = none := fresh₀ _ (by rw [hC]; exact Nat.le_succ_of_le (Nat.le_of_lt hI1))
  have hLlt : L < s.heap.objs.size := F.ns.lt
  have hIL : L ≠ s.heap.objs.size := Nat.ne_of_lt hLlt
  have hDL : H1.objs.size ≠ L := Ne.symm (below L (low L hLlt)).2
  have hCL : H2.objs.size ≠ L := Ne.symm (below L (low L hLlt)).1
  have hCI : s.heap.objs.size ≠ H2.objs.size := (below _ hI1).1
  have hDI : s.heap.objs.size ≠ H1.objs.size := (below _ hI1).2
  have off₀ : Off3 s.heap.objs.size H2.objs.size H1.objs.size news := Off3.of fun p hp => ⟨Nat.ne_of_lt (hlt p hp), (below _ (low _ (hlt p hp))).1, (below _ (low _ (hlt p hp))).2⟩
  have hlC : l ≠ H2.objs.size := (below _ (low _ (hlt _ hl))).1
  have hlD : l ≠ H1.objs.size := (below _ (low _ (hlt _ hl))).2
  have frame : ∀ (i : Nat) (h h' : Heap), (h.IsListIter s.heap.objs.size l i ∧ h.IsList l vs.toArray) → (∀ b o, (b = s.heap.objs.size ∨ b = l) → h.get? b = some o → h'.get? b = some o) → (h'.IsListIter s.heap.objs.size l i ∧ h'.IsList l vs.toArray) := fun i h h' st hk =>
    ⟨let ⟨o, e, r⟩ := st.1; ⟨o, hk _ _ (.inl rfl) e, r⟩, st.2.at fun o e => hk _ o (.inr rfl) e⟩
  have loop : ∀ s₃ : Shared, s₃ = { s with heap := h₁, toks := s.toks + ([] : List (Str × Value)).length } →
      codeS (model prog w) A (.compLoop (.ListComp elt [⟨.Name x px, iter, [], 0⟩] scope pos) 0 (.ref s.heap.objs.size) (.ref H1.objs.size) (compEnvC scope cl H2.objs.size env))
        (fun _ s' => ∃ m, s'.heap.Ns H2.objs.size m ∧ ∀ h', Heap.SameBut H2.objs.size s'.heap h' → Q (.ref H1.objs.size) { s' with heap := h' }) s₃ := by
    rintro s₃ rfl
    refine compLoop_S
      (fun kk s' => ∃ h' tk i ys m' news', s' = { s with heap := h', toks := tk } ∧ i ≤ vs.length ∧ kk = vs.length + 1 - i ∧ ys.length = i ∧ (h'.IsListIter s.heap.objs.size l i ∧ h'.IsList l vs.toArray) ∧ Fr h₀ L h' m ∧ h'.Ns H2.objs.size m' ∧ News h₀ L h' ((H1.objs.size, lst ys) :: news') ∧
        Off3 s.heap.objs.size H2.objs.size H1.objs.size news' ∧ (l, lobj vs k) ∈ news' ∧ J i ys news') ?_ (vs.length + 1)
      ⟨h₁, _, 0, [], _, news, rfl, Nat.zero_le _, rfl, rfl, frame _ _ _ hst fun b o _ e => old b o e, F.keeps fun b o e => old b o (old1 b o e), hns₁, fun p hp => ?_, off₀, hl, h0⟩
    · rintro kk s' ⟨h', tk, i, ys, m', news', rfl, hi, rfl, hyl, hst', F', hn', N', off', hS', R'⟩
      by_cases hlt : i < vs.length
      · refine W.item i _ _ _ (by simpa using hlt) hst' fun v h₂ tk₂ hPv hst₂ hk₂ => ?_
        have hPv' : vs[i]? = some v := by simpa using hPv
        refine wpAny_assign_Name (wpAny_storeName_local (lookup_relabel_local hx) (hn'.at' fun o e => hk₂ _ o (by simpa using Ne.symm hCI) e) (fun h₃ hn₃ hs₃ => ?_) (by simp [compEnvC, relabel, hkind]))
        have hst₃ := frame (i + 1) _ h₃ hst₂ fun b o hb e => hs₃.extBut b o (by rcases hb with rfl | rfl <;> assumption) e
        obtain ⟨oI, heI⟩ := hIo _ _ hst₃
        obtain ⟨oC, heC, hoC⟩ := ns_obj hn₃
        have F₃ : Fr h₀ L h₃ m := (fr_but F' hk₂ hIL hI₀).change hs₃ hCL hC₀
        have off3 := off'.mem
        have N₂ : News h₀ L h₂ ((H1.objs.size, lst ys) :: news') := news_but N' hk₂ fun p hp => by
          rcases List.mem_cons.mp hp with rfl | hp
          · exact Ne.symm hDI
          · exact (off3 p hp).1
        have N₃ : News h₀ L h₃ ((s.heap.objs.size, oI) :: (H2.objs.size, oC) :: (H1.objs.size, lst ys) :: news') := fun p hp => by
          rcases List.mem_cons.mp hp with rfl | hp
          · exact ⟨heI, Ne.symm hIL, hI₀⟩
          · rcases List.mem_cons.mp hp with rfl | hp
            · exact ⟨heC, hCL, hC₀⟩
            · have z := N₂ p hp
              refine ⟨hs₃.extBut _ _ ?_ z.1, z.2⟩
              rcases List.mem_cons.mp hp with rfl | hp
              · exact hDC
              · exact (off3 p hp).2.1
        refine wpS_mono (turn i v ys news' _ oI H2.objs.size oC H1.objs.size _ h₃ _ hPv' R' hS' hoC (by simp) F₃ N₃ off' ⟨hCI, hDI, Ne.symm hDC⟩) (fun y s₄ h₄ => ?_)
        obtain ⟨h₄, tk₄, news₄, rfl, F₄, N₄, off₄, hS₄, R₄⟩ := h₄
        have zI := (N₄ (s.heap.objs.size, oI) List.mem_cons_self).1
        have zC := (N₄ (H2.objs.size, oC) (List.mem_cons_of_mem _ List.mem_cons_self)).1
        have zD := (N₄ (H1.objs.size, lst ys) (List.mem_cons_of_mem _ (List.mem_cons_of_mem _ List.mem_cons_self))).1
        have N₄' : News h₀ L h₄ news₄ := fun p hp => N₄ p (List.mem_cons_of_mem _ (List.mem_cons_of_mem _ (List.mem_cons_of_mem _ hp)))
        have hst₄ : h₄.IsListIter s.heap.objs.size l (i + 1) ∧ h₄.IsList l vs.toArray := frame (i + 1) _ _ hst₃ fun b o hb e => by
          rcases hb with rfl | rfl
          · rw [heI] at e; cases e; exact zI
          · have z : h₃.get? b = some (lobj vs k) := (N₃ _ (.tail _ (.tail _ (.tail _ hS')))).1
            rw [z] at e; cases e; exact (N₄' _ hS₄).1
        refine append_at (hsz := by show ys.toArray.size ≤ sizeLine; rw [List.size_toArray, hyl]; exact Nat.le_trans hi hsz) zD fun h₅ hs₅ hD₅ => ?_
        have off4 := off₄.mem
        refine ⟨vs.length + 1 - (i + 1), by omega, h₅, tk₄, i + 1, ys ++ [y], _, news₄, rfl, hlt, rfl, by rw [List.length_append, List.length_singleton, hyl], frame _ _ _ hst₄ fun b o hb e => hs₅.extBut b o (by rcases hb with rfl | rfl <;> assumption) e, F₄.change hs₅ hDL hD₀,
          (hoC.ns zC).sameBut hs₅ (Ne.symm hDC), fun p hp => ?_, off₄, hS₄, R₄⟩
        rcases List.mem_cons.mp hp with rfl | hp
        · exact ⟨hD₅.trans (congrArg some (lst_snoc ys y)), hDL, hD₀⟩
        · exact ⟨hs₅.extBut _ _ (off4 p hp).2.2 (N₄' p hp).1, (N₄' p hp).2⟩
      · obtain rfl : i = vs.length := Nat.le_antisymm hi (Nat.not_lt.mp hlt)
        refine W.done _ _ _ (by simpa using hst') fun h₂ tk₂ hk₂ => ?_
        have off3 := off'.mem
        refine ⟨m', hn'.at' fun o e => hk₂ _ o (by simpa using Ne.symm hCI) e, fun h'' hs'' => ?_⟩
        have F₂ := fr_but F' hk₂ hIL hI₀
        have N₂ : News h₀ L h₂ ((H1.objs.size, lst ys) :: news') := news_but N' hk₂ fun p hp => by
          rcases List.mem_cons.mp hp with rfl | hp
          · exact Ne.symm hDI
          · exact (off3 p hp).1
        refine done _ ys news' h'' tk₂ R' (F₂.change hs'' hCL hC₀) (fun p hp => ?_) off'.one
        have z := N₂ p hp
        refine ⟨hs''.extBut _ _ ?_ z.1, z.2⟩
        rcases List.mem_cons.mp hp with rfl | hp
        · exact hDC
        · exact (off3 p hp).2.1
    · rcases List.mem_cons.mp hp with rfl | hp
      · exact ⟨hacc, hDL, hD₀⟩
      · exact ⟨old _ _ (old1 _ _ (N p hp).1), (N p hp).2⟩
  exact compStart_S (loop _ rfl) (W.self 0 _ _ _ (frame _ _ _ hst fun b o _ e => old b o e) (loop _ rfl))
end
end

section
open PySem.Calls PySem.Spec
section
variable {prog : Program} {w : World} {A : Around} {s : Shared}
/-- a loop over a range by step one, by an invariant -/
theorem forA_range {E : Value → Shared → Prop} {env : Env} {h₀ : Heap} {x : Str} {body : List Stmt} {Q : Flow → Shared → Prop} {r : Addr} {c : Int} {t u v : Tok} {n : Nat} {m₀ : Str → Option Value} {news : List (Addr × Obj)}
    (J : Nat → (Str → Option Value) → List (Addr × Obj) → Prop) (hh : A.handled = none)
    (F : Fr h₀ env.locals s.heap m₀) (N : News h₀ env.locals s.heap news) (hr : IsRange s.heap r 0 c 1 t u v) (hn : c = n) (hsz : n ≤ 1000) (h0 : J 0 m₀ news)
    (turn : ∀ i m₁ nx I it h tk ti, i < n → J i m₁ nx → (∀ p ∈ nx, p.1 ≠ I) → Fr h₀ env.locals h (fun y => if y = x then some (.int (i : Int) ti) else m₁ y) → News h₀ env.locals h ((I, it) :: nx) →
      wpAny (model prog w) A (execs body env) (UnrPost h₀ env.locals { s with heap := h, toks := tk } I it (fun m' nx' => J (i + 1) m' nx') Q) E { s with heap := h, toks := tk })
    (done : ∀ m₁ nx h tk, J n m₁ nx → Fr h₀ env.locals h m₁ → News h₀ env.locals h nx → Q .next { s with heap := h, toks := tk }) :
    wpAny (model prog w) A (pyIter (.ref r)) (fun it s₂ => LoopAtV prog w A h₀ env x body Q E it s₂) E s := by
  have hlt : ∀ p ∈ news, p.1 < s.heap.objs.size := fun p hp => Heap.lt_size (N p hp).1
  have hI₀ := next_is_new F
  have hLI : env.locals ≠ s.heap.objs.size := Nat.ne_of_lt F.ns.lt
  have hsm : Builtin.Range.small 0 c 1 = true := small_one (by omega) (by omega) (by omega) (by omega)
  have hsi : Builtin.Range.rangeSize 0 c 1 = ((n : Nat) : Int) := by rw [rangeSize_one]; split <;> omega
  refine wpAny_pyIter_range hr hsm ?_
  have W := Walks.range (prog := prog) (w := w) hh s.heap.objs.size 0 1 n
  refine ⟨_, _, _, _, _, _, m₀, news, (fun i m nx => J i m nx), rfl, W, ?_, ?_, ?_, ?_, F.push _, (fun p hp => ⟨Heap.get?_push_of_some _ (N p hp).1, (N p hp).2⟩), h0, ?_, ?_⟩
  · intro hm
    exact hLI (List.mem_singleton.mp hm)
  · intro b hb
    rw [List.mem_singleton.mp hb]
    exact hI₀
  · intro p hp hI
    exact Nat.ne_of_lt (hlt p hp) (List.mem_singleton.mp hI)
  · show IsRangeIter _ _ _ _ _
    rw [hsi]; simpa using Heap.get?_push_size _ rfl
  · rintro i v m₁ nx s₁ own ⟨hh', tk', rfl⟩ hin hP hJ hoff hown hget hall hst' F₁ N₁
    obtain ⟨it, hst2⟩ : ∃ it, hh'.get? s.heap.objs.size = some it := ⟨_, hst'⟩
    have hmemI := hall s.heap.objs.size (.head _) hI₀ _ hst2
    have off : ∀ p ∈ nx, p.1 ≠ s.heap.objs.size := fun p hp e => hoff p hp (by rw [e]; exact List.mem_singleton.mpr rfl)
    obtain ⟨ti, rfl⟩ := hP
    have N₂ := fun p (hp : p ∈ (s.heap.objs.size, it) :: nx) => show hh'.get? p.1 = some p.2 ∧ p.1 ≠ env.locals ∧ h₀.get? p.1 = none by
      rcases List.mem_cons.mp hp with rfl | hp
      · exact N₁ _ (List.mem_append_left _ hmemI)
      · exact N₁ _ (List.mem_append_right _ hp)
    have e0 : (0 : Int) + (i : Int) * 1 = i := by omega
    rw [e0] at F₁
    refine wpAny_mono (turn i m₁ nx s.heap.objs.size it hh' tk' ti hin hJ off F₁ N₂) (fun f s₂ p => ?_) fun _ _ e => e
    have fin : UnrEnd h₀ env.locals { s with heap := hh', toks := tk' } s.heap.objs.size it (fun m' nx' => J (i + 1) m' nx') s₂ →
        LoopStepU h₀ env.locals [s.heap.objs.size] own (fun m nx => J (i + 1) m nx) { s with heap := hh', toks := tk' } .next s₂ := by
      rintro ⟨h', tk, m', news', e, F', N', ho, r⟩
      refine ⟨rfl, h', tk, m', news', e, F', fun p hp => ?_, fun p hp hI => ho p hp (List.mem_singleton.mp hI), r⟩
      rcases List.mem_append.mp hp with hp | hp
      · have h2 : hh'.get? p.1 = some p.2 := hget p hp
        have h1 := List.mem_singleton.mp (hown p hp)
        have h3 : p = (s.heap.objs.size, it) := by
          rw [h1, hst2] at h2
          exact Prod.ext h1 (Option.some.inj h2).symm
        rw [h3]; exact N' _ (List.mem_cons_self ..)
      · exact N' _ (List.mem_cons_of_mem _ hp)
    cases f with
    | ret v => exact .ret p
    | brk => exact .brk p
    | next => exact .next (fin p)
    | cont => exact .cont (fin p)
  · rintro h' tk m' news' F' N' _ hJ
    exact done m' news' h' tk hJ F' N'
end
end

section
open PySem.Calls PySem.Spec
theorem is_bytes (prog : Program) (w : World) (b : Array UInt8) (t : Tok) : (bytesKind prog w).is b.toList (.bytes b t) = true := by simp [bytesKind, isBytes]
section
variable {prog : Program} {w : World} {K : Type} [DecidableEq K] {knd : KeyKind prog w K} {A : Around} {E : Value → Shared → Prop} {s : Shared} {h₀ : Heap} {L d : Addr} {m : Str → Option Value} {news : List (Addr × Obj)} {o : Obj} {kvs : List (K × Value)} {k : K} {key : Value}
theorem empty_any {K' : Type} [DecidableEq K'] {knd' : KeyKind prog w K'} {o : Obj} (hd : o.IsDictOf knd' []) : o.IsDictOf knd [] := by
  obtain ⟨es, ep, hc, hdat, _, hp, _⟩ := hd
  have he : es.toList = [] := List.length_eq_zero_iff.mp hp.length
  have he' : es = #[] := by cases es; simpa using he
  subst he'
  obtain ⟨o', ho, hd'⟩ := Heap.dictOf_iff.mp (Heap.DictOf.new (knd := knd) (default : Heap))
  obtain ⟨es', ep', hc', hdat', q1, q2, q3⟩ := hd'
  have he2 : es'.toList = [] := List.length_eq_zero_iff.mp q2.length
  have he2' : es' = #[] := by cases es'; simpa using he2
  subst he2'
  exact ⟨#[], ep, hc, hdat, q1, q2, q3⟩
theorem dict_at (N : News h₀ L s.heap news) (hm : (d, o) ∈ news) (hd : o.IsDictOf knd kvs) : s.heap.DictOf knd d kvs := Heap.dictOf_iff.mpr ⟨o, (N _ hm).1, hd⟩
theorem in_yes {v : Value} {Q : Value → Shared → Prop} (N : News h₀ L s.heap news) (hm : (d, o) ∈ news) (hd : o.IsDictOf knd kvs) (lo : (d == sysModules) = false) (hkey : knd.is k key = true) (hv : valueAt kvs k = some v) (h : Q (.bool true) { s with toks := s.toks + 1 }) :
    wpAny (model prog w) A (compareOp .In key (.ref d)) Q E s := wpAny_in_of hkey lo (dict_at N hm hd).mapOf (by rw [hv]; exact h)
theorem in_no {Q : Value → Shared → Prop} (N : News h₀ L s.heap news) (hm : (d, o) ∈ news) (hd : o.IsDictOf knd kvs) (lo : (d == sysModules) = false) (hkey : knd.is k key = true) (hv : valueAt kvs k = none) (h : Q (.bool false) { s with toks := s.toks + 1 }) :
    wpAny (model prog w) A (compareOp .In key (.ref d)) Q E s := wpAny_in_of hkey lo (dict_at N hm hd).mapOf (by rw [hv]; exact h)
theorem notin_yes {Q : Value → Shared → Prop} (N : News h₀ L s.heap news) (hm : (d, o) ∈ news) (hd : o.IsDictOf knd kvs) (lo : (d == sysModules) = false) (hkey : knd.is k key = true) (hv : valueAt kvs k = none) (h : Q (.bool true) { s with toks := s.toks + 1 }) :
    wpAny (model prog w) A (compareOp .NotIn key (.ref d)) Q E s := wpAny_notIn_of hkey lo (dict_at N hm hd).mapOf (by rw [hv]; exact h)
theorem notin_no {v : Value} {Q : Value → Shared → Prop} (N : News h₀ L s.heap news) (hm : (d, o) ∈ news) (hd : o.IsDictOf knd kvs) (lo : (d == sysModules) = false) (hkey : knd.is k key = true) (hv : valueAt kvs k = some v) (h : Q (.bool false) { s with toks := s.toks + 1 }) :
    wpAny (model prog w) A (compareOp .NotIn key (.ref d)) Q E s := wpAny_notIn_of hkey lo (dict_at N hm hd).mapOf (by rw [hv]; exact h)
theorem item_at {v : Value} {value slice : Expr} {Q : Value → Shared → Prop} (N : News h₀ L s.heap news) (hm : (d, o) ∈ news) (hd : o.IsDictOf knd kvs) (hkey : knd.is k key = true) (hv : valueAt kvs k = some v) (h : Q v { s with toks := s.toks + 1 })
    (hs : subscripted slice false (.ref d) key = operate [.ref d, key] (getItem (.ref d) key) := by with_unfolding_all rfl) :
    wpAny (model prog w) A (subscriptTail value slice (.ref d) key) Q E s := by
  have hD := dict_at N hm hd
  exact tail_any hD.typeIs slot_dict_getitem.lookup (wpAny_getItem_of hkey hD.mapOf hv h) hs
theorem set_at {v : Value} {g : Obj → List (Addr × Obj)} {Q : Unit → Shared → Prop} (F : Fr h₀ L s.heap m) (N : News h₀ L s.heap news) (U : UpdF d o news g) (hd : o.IsDictOf knd kvs) (hkey : knd.is k key = true) (hsz : kvs.length ≤ sizeLine)
    (h : ∀ h' o', Fr h₀ L h' m → News h₀ L h' (g o') → o'.IsDictOf knd (stored kvs k v) → Q () { s with heap := h', toks := s.toks + 1 }) : wpAny (model prog w) A (setItem (.ref d) key v) Q E s := by
  obtain ⟨pre, post, rfl, hg, a, b⟩ := U.split
  have hm := N (d, o) (List.mem_append_right _ (.head _))
  refine wpAny_setItem_pairs (hsz := hsz) hkey (Heap.dictOf_iff.mpr ⟨o, hm.1, hd⟩) fun h' hmm hs => ?_
  obtain ⟨o', ho', hd'⟩ := Heap.dictOf_iff.mp hmm
  exact h h' o' (F.change hs hm.2.1 hm.2.2) (hg o' ▸ news_set N a b hs ho') hd'
end

-- what laid computes
structure LSt where
  offs : List Int
  places : List (List Int × Int)
  out : List Int
def lstep (begin : Int) (s : LSt) (p : List Int) : LSt := match s.places.lookup p with
  | some o => ⟨s.offs ++ [o], s.places, s.out⟩
  | none => ⟨s.offs ++ [begin + s.out.length], s.places ++ [(p, begin + s.out.length)], s.out ++ p⟩
def lfold (begin : Int) (ps : List (List Int)) : LSt := ps.foldl (lstep begin) ⟨[], [], []⟩

/-- a dict keyed by bytes reads as places -/
inductive Places : List (List UInt8 × Value) → List (List Int × Int) → Prop
  | nil : Places [] []
  | cons (b : Array UInt8) (n : Int) (t : Tok) {kvs ps} : Places kvs ps → Places ((b.toList, .int n t) :: kvs) ((KBw.bInts b, n) :: ps)
theorem bInts_inj {a b : Array UInt8} (h : KBw.bInts a = KBw.bInts b) : a = b := by
  unfold KBw.bInts at h
  have hj : Function.Injective fun c : UInt8 => (c.toNat : Int) := fun x y e => UInt8.toNat_inj.mp (Int.ofNat.inj e)
  have := List.map_inj_right hj |>.mp h
  cases a; cases b; simpa using this
theorem Places.snoc {kvs ps} (h : Places kvs ps) (b : Array UInt8) (n : Int) (t : Tok) : Places (kvs ++ [(b.toList, .int n t)]) (ps ++ [(KBw.bInts b, n)]) := by
  induction h with
  | nil => exact .cons b n t .nil
  | cons b' n' t' _ ih => exact .cons b' n' t' ih
theorem Places.len {kvs ps} (h : Places kvs ps) : kvs.length = ps.length := by induction h <;> simp_all
theorem Places.some {kvs ps} (h : Places kvs ps) {b : Array UInt8} {n : Int} (e : ps.lookup (KBw.bInts b) = some n) : ∃ t, valueAt kvs b.toList = some (.int n t) := by
  induction h with
  | nil => cases e
  | cons b' n' t' h ih =>
    rw [List.lookup_cons] at e
    by_cases hq : KBw.bInts b = KBw.bInts b'
    · have hb := bInts_inj hq
      subst hb
      simp at e
      subst e
      exact ⟨t', by simp [valueAt]⟩
    · have h2 : (KBw.bInts b == KBw.bInts b') = false := by simpa using hq
      rw [h2] at e
      obtain ⟨t, ht⟩ := ih e
      refine ⟨t, ?_⟩
      have hne : b'.toList ≠ b.toList := fun x => hq (by rw [show b' = b by cases b; cases b'; simpa using x])
      simpa [valueAt, List.find?_cons, hne] using ht
theorem Places.none {kvs ps} (h : Places kvs ps) {b : Array UInt8} (e : ps.lookup (KBw.bInts b) = none) : valueAt kvs b.toList = none := by
  induction h with
  | nil => rfl
  | cons b' n' t' h ih =>
    rw [List.lookup_cons] at e
    by_cases hq : KBw.bInts b = KBw.bInts b'
    · simp [hq] at e
    · have h2 : (KBw.bInts b == KBw.bInts b') = false := by simpa using hq
      rw [h2] at e
      have ht := ih e
      have hne : b'.toList ≠ b.toList := fun x => hq (by rw [show b' = b by cases b; cases b'; simpa using x])
      simpa [valueAt, List.find?_cons, hne] using ht
theorem stored_new {K : Type} [DecidableEq K] {kvs : List (K × Value)} {k : K} {v : Value} (h : valueAt kvs k = none) : stored kvs k v = kvs ++ [(k, v)] := by
  unfold stored
  rw [if_neg]
  intro hq
  obtain ⟨x, hx, hk⟩ := List.any_eq_true.mp hq
  unfold valueAt at h
  have : (kvs.find? fun kv => kv.1 = k) = Option.none := by simpa using h
  exact absurd hk (by simpa using (List.find?_eq_none.mp this) x hx)
theorem lfold_snoc (begin : Int) (ps : List (List Int)) (p : List Int) : lfold begin (ps ++ [p]) = lstep begin (lfold begin ps) p := by simp [lfold]
theorem lfold_bounds (begin : Int) : ∀ (ps : List (List Int)), (∀ p ∈ ps, p.length = 4) → (lfold begin ps).out.length ≤ 4 * ps.length ∧ (lfold begin ps).places.length ≤ ps.length ∧ (lfold begin ps).offs.length = ps.length := by
  intro ps h
  have gen : ∀ (qs : List (List Int)) (s : LSt) (k : Nat), (∀ p ∈ qs, p.length = 4) → s.out.length ≤ 4 * k → s.places.length ≤ k → s.offs.length = k →
      (qs.foldl (lstep begin) s).out.length ≤ 4 * (k + qs.length) ∧ (qs.foldl (lstep begin) s).places.length ≤ k + qs.length ∧ (qs.foldl (lstep begin) s).offs.length = k + qs.length := by
    intro qs
    induction qs with
    | nil => intro s k _ a b c; exact ⟨a, b, c⟩
    | cons q qs ih =>
      intro s k h a b c
      have hq := h q (List.mem_cons_self ..)
      have z := ih (lstep begin s q) (k + 1) (fun p hp => h p (List.mem_cons_of_mem _ hp))
      have e : k + 1 + qs.length = k + (q :: qs).length := by simp only [List.length_cons]; omega
      rw [← e]
      refine z ?_ ?_ ?_ <;> unfold lstep <;> split <;> simp only [List.length_append, List.length_cons, List.length_nil] <;> omega
  have z := gen ps ⟨[], [], []⟩ 0 h (Nat.zero_le _) (Nat.zero_le _) rfl
  simpa [lfold] using z
/-- bytes objects and their octets -/
inductive BytesAre : List Value → List (List Int) → Prop
  | nil : BytesAre [] []
  | cons (b : Array UInt8) (t : Tok) {vs ps} : BytesAre vs ps → BytesAre (.bytes b t :: vs) (KBw.bInts b :: ps)
theorem BytesAre.len {vs ps} (h : BytesAre vs ps) : vs.length = ps.length := by induction h <;> simp_all
theorem BytesAre.at {vs ps} (h : BytesAre vs ps) {i : Nat} {v : Value} (e : vs[i]? = some v) : ∃ b t, v = .bytes b t ∧ ps[i]? = some (KBw.bInts b) := by
  induction h generalizing i with
  | nil => simp at e
  | cons b t h ih =>
    cases i with
    | zero => simp at e; exact ⟨b, t, e.symm, rfl⟩
    | succ i => simpa using ih (by simpa using e)
theorem BytesAre.snoc {vs ps} (h : BytesAre vs ps) (b : Array UInt8) (t : Tok) : BytesAre (vs ++ [.bytes b t]) (ps ++ [KBw.bInts b]) := by
  induction h with
  | nil => exact .cons b t .nil
  | cons b' t' _ ih => exact .cons b' t' ih
end

local macro_rules | `(tactic| walk_at "mine enterS") => `(tactic| k_dflt (
  (refine' codeS_def ?k1 ?k2 ?k3 ?k4 ?k5 ?kA ?kF ?kK ?k6 ?k7 ?k8 ?k9 ?kB ?_ ?c2 ?c3 ?c4 ?c5; (case kA => exact rfl); (case kF => exact rfl); (case kK => assumption); (case k1 => k_asm); (case k2 => k_asm); (case k3 => k_asm); (case k4 => k_asm); (case k5 => k_asm); (case k6 => k_is); (case k7 => k_is); (case k8 => ktr_room); (case k9 => first | exact BindsTo.of_eq rfl | exact binds_K (by k_in) rfl (by k_is) rfl rfl rfl); (case c5 => decide); (case kB => exact locs rfl); (case c2 => exact rfl); (case c3 => exact rfl); (case c4 => exact rfl); k_whole; intro g' L' h' FG' F' N' B' X' T'; (try dsimp only); (try k_lift B'))))
local macro_rules | `(tactic| walk_at "getMethod ref") => `(tactic| (k_here; refine getMethod_ba (b := _) (News.get (by k_asm) (by k_mem)) ?_))
local macro_rules | `(tactic| walk_at "mine useS") => `(tactic| k_dflt (refine' SpecS.use ?S ?B ?F ?X ?N ?T ?hk ?hd ?hu ?_; (case B => k_asm); (case F => k_asm); (case X => k_asm); (case N => k_asm); (case T => k_asm); (case S => walk_at "mine specS"); (case hk => first | exact rfl | assumption); (case hd => ktr_room); (case hu => ktr_units); k_whole))
local macro_rules | `(tactic| walk_at "mine mem") => `(tactic| first | exact List.mem_cons_self | assumption | (refine List.mem_cons_of_mem _ ?_; walk_at "mine mem"))
local macro_rules | `(tactic| k_mem) => `(tactic| walk_at "mine mem")
local macro_rules | `(tactic| walk_at "mine callK0") => `(tactic| k_dflt (refine' callWithS_K0 ?k1 ?k2 ?_; (case k2 => k_in); (case k1 => k_is); k_whole))
local macro_rules | `(tactic| walk_at "mine callK") => `(tactic| ((try dsimp only); k_dflt (refine' callWithS_K ?k0 ?k1 ?_; (case k0 => k_asm); (case k1 => k_is); k_whole)))
local macro_rules | `(tactic| walk_at "compareOp In bytes ref") => `(tactic| (k_here; k_dflt (first
  | refine in_yes (knd := bytesKind _ _) (by k_asm) (by k_mem) (by assumption) (by assumption) (is_bytes _ _ _ _) (by assumption) ?_
  | refine in_no (knd := bytesKind _ _) (by k_asm) (by k_mem) (by assumption) (by assumption) (is_bytes _ _ _ _) (by assumption) ?_)))
local macro_rules | `(tactic| walk_at "subscriptTail") => `(tactic| (k_here; (with_reducible show wpAny _ _ (subscriptTail _ _ (Value.ref _) (Value.bytes _ _)) _ _ _); k_dflt (refine item_at (knd := bytesKind _ _) (by k_asm) (by k_mem) (by assumption) (is_bytes _ _ _ _) (by assumption) ?_)))
local macro_rules | `(tactic| walk_at "setItem ref bytes") => `(tactic| (k_here; k_dflt (refine' set_at (knd := bytesKind _ _) ?F ?N ?U ?d (is_bytes _ _ _ _) ?z ?_; (case F => k_asm); (case N => k_asm); (case U => k_updF); (case d => assumption); (case z => assumption)); intro h9' o9' F9' N9' hd9'; (try dsimp only at N9')))
local macro_rules | `(tactic| walk_at "call builtin:len") => `(tactic| (k_here; (with_reducible show wpAny _ _ (call (Value.builtin "len") [Value.ref _]) _ _ _); k_dflt (refine call_len_ba (b := _) (News.get (by k_asm) (by k_mem)) (by assumption) ?_); intro t9' k9'))
local macro_rules | `(tactic| walk_at "call type:bytes") => `(tactic| (k_here; (with_reducible show wpAny _ _ (call (Value.type "bytes") [Value.ref _]) _ _ _); refine call_bytes_ba (b := _) (News.get (by k_asm) (by k_mem)) (by have hsL : (sizeLine : Nat) = 2 ^ 24 := rfl; omega) ?_; intro t9' k9'))
local macro_rules | `(tactic| walk_at "call builtin:len") => `(tactic| (k_here; (with_reducible show wpAny _ _ (call (Value.builtin "len") [Value.ref _]) _ _ _); k_dflt (refine PySem.Calls.call_len_list (News.isList (by k_asm) (by k_mem)) (by with_reducible assumption) ?_)))
local macro_rules | `(tactic| walk_at "compareOp NotIn int ref") => `(tactic| (k_here; k_dflt (first
  | refine notin_yes (knd := intKind _ _) (by k_asm) (by k_mem) (by assumption) (by assumption) (intKind_is _ _ _ _) (by assumption) ?_
  | refine notin_no (knd := intKind _ _) (by k_asm) (by k_mem) (by assumption) (by assumption) (intKind_is _ _ _ _) (by assumption) ?_)))
local macro_rules | `(tactic| walk_at "subscriptTail") => `(tactic| (k_here; (with_reducible show wpAny _ _ (subscriptTail _ _ (Value.ref _) (Value.int _ _)) _ _ _); k_dflt (refine item_at (knd := intKind _ _) (by k_asm) (by k_mem) (by assumption) (intKind_is _ _ _ _) (by assumption) ?_)))

section
abbrev outCell (d : Addr) (k1 : Tok) (h1 : Int) : Obj := dictOf [⟨h1, .str (Str.ofString "made") k1, .ref d⟩] 1
abbrev outLed (x dx d : Addr) (b : Array UInt8) (k1 : Tok) (h1 : Int) (rest : List (Addr × Obj)) : List (Addr × Obj) := (x, instObj 264 dx) :: (dx, outCell d k1 h1) :: (d, baObj b) :: rest
theorem ba_K {prog : Program} {w : World} {A : Around} {s : Shared} {h₀ : Heap} {L : Addr} {m : Str → Option Value} {news : List (Addr × Obj)} {Q : Value → Shared → Prop} (F : Fr h₀ L s.heap m) (N : News h₀ L s.heap news)
    (h : ∀ d h', Fr h₀ L h' m → News h₀ L h' ((d, baObj #[]) :: news) → (∀ p ∈ news, p.1 < d) → Q (.ref d) { s with heap := h' }) : wpS (model prog w) A (call (.type "bytearray") []) Q s :=
  call_bytearray fun h' hx k => h _ h' (F.keeps k) (fun p hp => by
    rcases List.mem_cons.mp hp with rfl | hp
    · exact ⟨hx, Nat.ne_of_gt F.ns.lt, next_is_new F⟩
    · exact ⟨k _ _ (N p hp).1, (N p hp).2⟩) fun p hp => Heap.lt_size (N p hp).1
theorem news_rot1 {h₀ h : Heap} {L : Addr} {a b c : Addr × Obj} {r : List (Addr × Obj)} (N : News h₀ L h (a :: b :: c :: r)) : News h₀ L h (b :: c :: a :: r) := fun p hp => N p (by
  simp only [List.mem_cons] at hp ⊢
  rcases hp with h | h | h | h <;> simp [h])
theorem spec_out_new {w : World} {news : List (Addr × Obj)} :
    SpecS w 264 4 48 [] news (fun v n' => ∃ x dx d k1 h1, v = .ref x ∧ ((∀ p ∈ news, p.1 < dx) ∧ dx < x ∧ x < d) ∧ outLed x dx d #[] k1 h1 news = n') := by
  unfold SpecS
  intro dp un gd cn cs a ccd cl outer A₀ base h₀ L m s mean mg mb Q B F X N T hk hd hu hret
  walk_at "mine fill"
  k_dflt (refine' makeS ?k1 ?k2 ?k3 ?k4 ?k5 ?k6 ?_; (case k1 => k_asm); (case k2 => k_asm); (case k3 => k_asm); (case k4 => k_is); (case k5 => k_is); (case k6 => k_is); k_whole)
  intro x dx h' F' N' l1 l2
  have l3 : ∀ p ∈ news, p.1 ≠ dx := fun p hp => Nat.ne_of_lt (l1 p hp)
  have l4 : ∀ p ∈ news, p.1 ≠ x := fun p hp => Nat.ne_of_lt (Nat.lt_trans (l1 p hp) l2)
  k_lt2 l2
  walk_at "mine enterS"
  refine execsS_cons (execS_Assign_Attribute (evalS_Call ?_))
  k_steps
  refine callWithS_T0 (ba_K (by assumption) (by assumption) ?_)
  intro d h9 F9 N9 l9
  have l5 : x < d := l9 _ (.head _)
  have l6 : dx < d := l9 _ (.tail _ (.head _))
  k_lt2 l5
  k_lt2 l6
  k_steps
  refine execsS_nil ?_
  k_steps
  rename News h₀ L _ (_ :: _) => N8
  refine And.intro rfl ?_
  exact hret _ _ _ _ ⟨x, dx, d, _, _, rfl, ⟨l1, l2, l5⟩, rfl⟩ (by assumption) (news_rot1 N8)
end

section
theorem bInts_app (a b : Array UInt8) : KBw.bInts (a ++ b) = KBw.bInts a ++ KBw.bInts b := by simp [KBw.bInts]
theorem bInts_len (a : Array UInt8) : (KBw.bInts a).length = a.size := by simp [KBw.bInts]
theorem extend_K {prog : Program} {w : World} {A : Around} {s : Shared} {h₀ : Heap} {L : Addr} {m : Str → Option Value} {news news' : List (Addr × Obj)} {Q : Value → Shared → Prop} {d : Addr} {b c : Array UInt8} {t : Tok} (F : Fr h₀ L s.heap m) (N : News h₀ L s.heap news)
    (U : Upd d (baObj b) (baObj (b ++ c)) news news') (hz : (b ++ c).size ≤ sizeLine) (h : ∀ h', Fr h₀ L h' m → News h₀ L h' news' → Q .none { s with heap := h' }) :
    wpS (model prog w) A (call (.builtin "bytearray.extend") [.ref d, .bytes c t]) Q s := by
  obtain ⟨pre, post, rfl, rfl, a, b'⟩ := U.split
  have z := N (d, baObj b) (List.mem_append.mpr (.inr (.head _)))
  exact extend_S z.1 hz fun hx => h _ (F.change (Heap.SameBut.update ..) z.2.1 z.2.2) (news_set N a b' (Heap.SameBut.update ..) hx)
local macro_rules | `(tactic| walk_at "mine spec") => `(tactic| ((with_reducible show Spec _ 179 _ _ _ _ _); exact spec_number_octets (by omega) (by omega)))
theorem ba_fits {b c : Array UInt8} {l : List Int} (hz : b.size ≤ 1000) (hb : KBw.bInts c = l) {k : Nat} (hk : l.length = k) (hk2 : k ≤ 1000) : (b ++ c).size ≤ sizeLine := by
  have e := bInts_len c
  rw [hb, hk] at e
  have : (sizeLine : Nat) = 2 ^ 24 := rfl
  simp only [Array.size_append]
  omega
theorem spec_out_u16 {w : World} {x dx d : Addr} {b : Array UInt8} {k1 : Tok} {h1 : Int} {rest : List (Addr × Obj)} {n : Int} {tn : Tok} (h0 : 0 ≤ n) (hn : n < 65536) (hz : b.size ≤ 1000)
    (e1 : x ≠ dx) (e2 : x ≠ d) (e3 : dx ≠ d) (hr : ∀ p ∈ rest, p.1 ≠ d) :
    SpecS w 207 6 72 [.ref x, .int n tn] (outLed x dx d b k1 h1 rest) (fun v n' => ∃ c, v = .none ∧ KBw.bInts c = KBw.bInts b ++ [n / 256, n % 256] ∧ outLed x dx d c k1 h1 rest = n') := by
  unfold SpecS
  intro dp un gd cn cs a ccd cl outer A₀ base h₀ L m s mean mg mb Q B F X N T hk hd hu hret
  walk_at "mine fill"
  refine wpS_call ?_
  walk_at "mine enterS"
  refine execsS_cons (execS_Expr (evalS_Method ?_))
  k_steps
  refine callWithS_B ?_
  k_steps
  rename KBw.bInts _ = _ => hb
  refine extend_K (by assumption) (by assumption) (.tail e2 (.tail e3 (.head hr))) (ba_fits (k := 2) hz hb rfl (by decide)) ?_
  intro h9 F9 N9
  refine execsS_nil ?_
  k_steps
  exact hret _ _ _ _ ⟨b ++ _, rfl, (bInts_app _ _).trans (by rw [hb]), rfl⟩ (by assumption) (by assumption)
theorem i16_mask (n : Int) : Builtin.bitAnd n 65535 = n % 65536 := by
  exact bitAnd_m16 n
local macro_rules | `(tactic| walk_at "mine spec") => `(tactic| ((with_reducible show Spec _ 179 _ _ _ _ _); exact spec_number_octets (by rw [i16_mask]; omega) (by rw [i16_mask]; omega)))
theorem spec_out_i16 {w : World} {x dx d : Addr} {b : Array UInt8} {k1 : Tok} {h1 : Int} {rest : List (Addr × Obj)} {n : Int} {tn : Tok} (h0 : -32768 ≤ n) (hn : n ≤ 32767) (hz : b.size ≤ 1000)
    (e1 : x ≠ dx) (e2 : x ≠ d) (e3 : dx ≠ d) (hr : ∀ p ∈ rest, p.1 ≠ d) :
    SpecS w 214 6 72 [.ref x, .int n tn] (outLed x dx d b k1 h1 rest) (fun v n' => ∃ c, v = .none ∧ KBw.bInts c = KBw.bInts b ++ [n % 65536 / 256, n % 65536 % 256] ∧ outLed x dx d c k1 h1 rest = n') := by
  unfold SpecS
  intro dp un gd cn cs a ccd cl outer A₀ base h₀ L m s mean mg mb Q B F X N T hk hd hu hret
  walk_at "mine fill"
  refine wpS_call ?_
  walk_at "mine enterS"
  refine execsS_any ?_
  k_steps
  refine execsS_cons (execS_Expr (evalS_Method ?_))
  k_steps
  refine callWithS_B ?_
  k_steps
  rename KBw.bInts _ = _ => hb
  rw [i16_mask] at hb
  refine extend_K (by assumption) (by assumption) (.tail e2 (.tail e3 (.head hr))) (ba_fits (k := 2) hz hb rfl (by decide)) ?_
  intro h9 F9 N9
  refine execsS_nil ?_
  k_steps
  exact hret _ _ _ _ ⟨b ++ _, rfl, (bInts_app _ _).trans (by rw [hb]), rfl⟩ (by assumption) (by assumption)
theorem spec_out_add {w : World} {x dx d : Addr} {b c : Array UInt8} {t : Tok} {k1 : Tok} {h1 : Int} {rest : List (Addr × Obj)} (hz : b.size ≤ 1000) (hz2 : c.size ≤ 1000)
    (e1 : x ≠ dx) (e2 : x ≠ d) (e3 : dx ≠ d) (hr : ∀ p ∈ rest, p.1 ≠ d) :
    SpecS w 247 6 72 [.ref x, .bytes c t] (outLed x dx d b k1 h1 rest) (fun v n' => v = .none ∧ outLed x dx d (b ++ c) k1 h1 rest = n') := by
  unfold SpecS
  intro dp un gd cn cs a ccd cl outer A₀ base h₀ L m s mean mg mb Q B F X N T hk hd hu hret
  walk_at "mine fill"
  refine wpS_call ?_
  walk_at "mine enterS"
  refine execsS_cons (execS_Expr (evalS_Method ?_))
  k_steps
  refine callWithS_B ?_
  k_steps
  refine extend_K (by assumption) (by assumption) (.tail e2 (.tail e3 (.head hr))) (by rw [Array.size_append]; have : (sizeLine : Nat) = 2 ^ 24 := rfl; omega) ?_
  intro h9 F9 N9
  refine execsS_nil ?_
  k_steps
  exact hret _ _ _ _ ⟨rfl, rfl⟩ (by assumption) (by assumption)
local macro_rules | `(tactic| walk_at "call type:bytes") => `(tactic| (k_here; refine call_bytes_ba (b := _) (News.get (by k_asm) (by k_mem)) (by have hsL : (sizeLine : Nat) = 2 ^ 24 := rfl; omega) ?_; intro t9 k9))
theorem spec_out_octets {w : World} {x dx d : Addr} {b : Array UInt8} {k1 : Tok} {h1 : Int} {rest : List (Addr × Obj)} (hz : b.size ≤ 1000) :
    Spec w 261 6 72 [.ref x] (outLed x dx d b k1 h1 rest) (fun v n' => ∃ t, v = .bytes b t ∧ outLed x dx d b k1 h1 rest = n') := by
  unfold Spec
  intro dp un gd cn cs a ccd cl outer A₀ base h₀ L m s mean mg mb Q E B F X N T hk hd hu hret
  walk_at "mine start"
  k_steps
  exact hret _ _ _ _ ⟨_, rfl, rfl⟩ (by assumption) (by assumption)
end

section
abbrev Car := Bool × Int
abbrev Car.pt (c : Car) : Bool := c.1
abbrev Car.v (c : Car) : Int := c.2
def Car.word (c : Car) : Str := if c.pt then Str.ofString "point" else Str.ofString "at"
abbrev tup2 (a b : Value) (k : Nat) : Obj := { cls := .type "tuple", data := .seq #[a, b] k }
def Car.ok (c : Car) : Prop := if c.pt then 0 ≤ c.v ∧ c.v < 65536 else -32768 ≤ c.v ∧ c.v ≤ 32767
def Car.enc (c : Car) : List Int := [0, if c.pt then 2 else 1, c.v % 65536 / 256, c.v % 65536 % 256]
local macro_rules | `(tactic| walk_at "mine specS") => `(tactic| first
  | (with_reducible show SpecS _ 264 _ _ _ _ _); exact spec_out_new
  | (with_reducible show SpecS _ 207 _ _ _ _ _); exact spec_out_u16 (by omega) (by omega) (by assumption) (by assumption) (by assumption) (by assumption) (by assumption)
  | (with_reducible show SpecS _ 214 _ _ _ _ _); exact spec_out_i16 (by omega) (by omega) (by assumption) (by assumption) (by assumption) (by assumption) (by assumption))
local macro_rules | `(tactic| walk_at "mine spec") => `(tactic| ((with_reducible show Spec _ 261 _ _ _ _ _); exact spec_out_octets (by assumption)))
theorem spec_write_pt {w : World} {news : List (Addr × Obj)} {a : Addr} {v : Int} {tw tv : Tok} {k : Nat} (hc : (a, tup2 (.str (Str.ofString "point") tw) (.int v tv) k) ∈ news) (h0 : 0 ≤ v) (h1 : v < 65536) :
    SpecS w 302 12 120 [.ref a] news (fun r n' => ∃ t, (∃ b, r = .bytes b t ∧ KBw.bInts b = Car.enc ⟨true, v⟩) ∧ news = n') := by
  unfold SpecS
  intro dp un gd cn cs a' ccd cl outer A₀ base h₀ L m s mean mg mb Q B F X N T hk hd hu hret
  walk_at "mine fill"
  refine wpS_call ?_
  walk_at "mine enterS"
  refine execsS_cons (execS_Assign_Name (evalS_Call ?_))
  k_steps
  walk_at "mine callK0"
  walk_at "mine useS"
  intro v1 n1 h1' tk1 hp F1 N1
  obtain ⟨x, dx, d, k1, hh1, rfl, ⟨l1, l2, l3⟩, rfl⟩ := hp
  k_steps
  refine execsS_cons (execS_If ?_)
  k_steps
  have e1 : x ≠ dx := Nat.ne_of_gt l2
  have e2 : x ≠ d := Nat.ne_of_lt l3
  have e3 : dx ≠ d := Nat.ne_of_lt (Nat.lt_trans l2 l3)
  have hr : ∀ p ∈ news, p.1 ≠ d := fun p hp => Nat.ne_of_lt (Nat.lt_trans (l1 p hp) (Nat.lt_trans l2 l3))
  have hz0 : (#[] : Array UInt8).size ≤ 1000 := by decide
  refine execsS_cons (execS_Expr (evalS_Method ?_))
  k_steps
  walk_at "mine callK"
  k_steps
  walk_at "mine useS"
  intro v2 n2 h2' tk2 hp F2 N2
  obtain ⟨c, rfl, hc2, rfl⟩ := hp
  have hl2 : c.size = 2 := by have e := bInts_len c; rw [hc2] at e; exact e.symm
  have hz2 : c.size ≤ 1000 := by omega
  refine execsS_cons (execS_Expr (evalS_Method ?_))
  k_steps
  walk_at "mine callK"
  k_steps
  walk_at "mine useS"
  intro v3 n3 h3' tk3 hp F3 N3
  obtain ⟨e, rfl, hc3, rfl⟩ := hp
  have hl3 : e.size = 4 := by have e := bInts_len e; rw [hc3, hc2] at e; exact e.symm
  have hz3 : e.size ≤ 1000 := by omega
  dsimp only
  refine execsS_nil ?_
  dsimp only
  refine execsS_any ?_
  k_steps
  rename News h₀ L _ (_ :: _) => N8
  refine hret _ _ _ _ ⟨_, ⟨e, rfl, ?_⟩, rfl⟩ (by assumption) (cb_drop N8 fun _ h => .tail _ (.tail _ (.tail _ h)))
  rw [hc3, hc2]
  show _ = Car.enc ⟨true, v⟩
  simp only [Car.enc, if_true, Int.emod_eq_of_lt h0 h1]
  rfl
theorem spec_write_at {w : World} {news : List (Addr × Obj)} {a : Addr} {v : Int} {tw tv : Tok} {k : Nat} (hc : (a, tup2 (.str (Str.ofString "at") tw) (.int v tv) k) ∈ news) (h0 : -32768 ≤ v) (h1 : v ≤ 32767) :
    SpecS w 302 12 120 [.ref a] news (fun r n' => ∃ t, (∃ b, r = .bytes b t ∧ KBw.bInts b = Car.enc ⟨false, v⟩) ∧ news = n') := by
  unfold SpecS
  intro dp un gd cn cs a' ccd cl outer A₀ base h₀ L m s mean mg mb Q B F X N T hk hd hu hret
  walk_at "mine fill"
  refine wpS_call ?_
  walk_at "mine enterS"
  refine execsS_cons (execS_Assign_Name (evalS_Call ?_))
  k_steps
  walk_at "mine callK0"
  walk_at "mine useS"
  intro v1 n1 h1' tk1 hp F1 N1
  obtain ⟨x, dx, d, k1, hh1, rfl, ⟨l1, l2, l3⟩, rfl⟩ := hp
  k_steps
  refine execsS_cons (execS_If ?_)
  k_steps
  have e1 : x ≠ dx := Nat.ne_of_gt l2
  have e2 : x ≠ d := Nat.ne_of_lt l3
  have e3 : dx ≠ d := Nat.ne_of_lt (Nat.lt_trans l2 l3)
  have hr : ∀ p ∈ news, p.1 ≠ d := fun p hp => Nat.ne_of_lt (Nat.lt_trans (l1 p hp) (Nat.lt_trans l2 l3))
  have hz0 : (#[] : Array UInt8).size ≤ 1000 := by decide
  refine execsS_cons (execS_Expr (evalS_Method ?_))
  k_steps
  walk_at "mine callK"
  k_steps
  walk_at "mine useS"
  intro v2 n2 h2' tk2 hp F2 N2
  obtain ⟨c, rfl, hc2, rfl⟩ := hp
  have hl2 : c.size = 2 := by have e := bInts_len c; rw [hc2] at e; exact e.symm
  have hz2 : c.size ≤ 1000 := by omega
  refine execsS_cons (execS_Expr (evalS_Method ?_))
  k_steps
  walk_at "mine callK"
  k_steps
  walk_at "mine useS"
  intro v3 n3 h3' tk3 hp F3 N3
  obtain ⟨e, rfl, hc3, rfl⟩ := hp
  have hl3 : e.size = 4 := by have e := bInts_len e; rw [hc3, hc2] at e; exact e.symm
  have hz3 : e.size ≤ 1000 := by omega
  dsimp only
  refine execsS_nil ?_
  dsimp only
  refine execsS_any ?_
  k_steps
  rename News h₀ L _ (_ :: _) => N8
  refine hret _ _ _ _ ⟨_, ⟨e, rfl, ?_⟩, rfl⟩ (by assumption) (cb_drop N8 fun _ h => .tail _ (.tail _ (.tail _ h)))
  rw [hc3, hc2]
  show _ = Car.enc ⟨false, v⟩
  rfl
end

section
theorem withM {P : Prop} {h₀ h : Heap} {L : Addr} {m : Str → Option Value} (_F : Fr h₀ L h m) (k : ∀ m0, m0 = m → P) : P := k m rfl
abbrev ovr2 (x1 x2 : Str) (p1 p2 : Option Value) (m : Str → Option Value) : Str → Option Value := fun y => if y = x1 then p1 else if y = x2 then p2 else m y
theorem ovr2_self (x1 x2 : Str) (m : Str → Option Value) : m = ovr2 x1 x2 (m x1) (m x2) m := by
  funext y
  unfold ovr2
  split
  · subst_vars; rfl
  · split
    · subst_vars; rfl
    · rfl
theorem ovr2_2 {x1 x2 : Str} {p1 p2 : Option Value} {v : Value} {m : Str → Option Value} (h : x1 ≠ x2) : (fun y => if y = x2 then some v else ovr2 x1 x2 p1 p2 m y) = ovr2 x1 x2 p1 (some v) m := by
  funext y
  unfold ovr2
  by_cases e1 : y = x1
  · subst e1; simp [h]
  · by_cases e2 : y = x2
    · subst e2; simp [e1]
    · simp [e1, e2]
theorem ovr2_12 {x1 x2 : Str} {p1 p2 : Option Value} {v v' : Value} {m : Str → Option Value} : (fun y => if y = x1 then some v' else if y = x2 then some v else ovr2 x1 x2 p1 p2 m y) = ovr2 x1 x2 (some v') (some v) m := by
  funext y
  unfold ovr2
  by_cases e1 : y = x1
  · simp [e1]
  · by_cases e2 : y = x2 <;> simp [e1, e2]
theorem sub4 {α : Type} (a b c d : α) (r : List α) : ∀ p ∈ a :: d :: r, p ∈ a :: b :: c :: d :: r := fun p hp => by
  simp only [List.mem_cons] at hp ⊢
  rcases hp with h | h | h <;> simp [h]
theorem lobj_push {os : List Value} {x : Value} {n : Nat} : W.listOf (os.toArray.push x) n = lobj (os ++ [x]) n := by simp [W.listOf]
theorem spec_laid {w : World} {news : List (Addr × Obj)} {l : Addr} {vs : List Value} {k : Nat} {ps : List (List Int)} {begin : Int} {tb : Tok} (hl : (l, lobj vs k) ∈ news) (hv : BytesAre vs ps) (h4 : ∀ p ∈ ps, p.length = 4) (hb : 0 ≤ begin) (hsz : begin + 4 * ps.length ≤ 900) :
    SpecS w 276 4 48 [.int begin tb, .ref l] news (fun v n' => ∃ tp ol os k1 k2 ob t, v = .ref tp ∧ (IntsAre os (lfold begin ps).offs ∧ KBw.bInts ob = (lfold begin ps).out) ∧ (tp, tup2 (.ref ol) (.bytes ob t) k2) :: (ol, lobj os k1) :: news = n') := by
  unfold SpecS
  intro dp un gd cn cs a ccd cl outer A₀ base h₀ L m s mean mg mb Q B F X N T hk hd hu hret
  walk_at "mine fill"
  refine wpS_call ?_
  walk_at "mine enterS"
  refine execsS_any ?_
  k_steps
  refine execsS_any ?_
  k_steps
  refine execsS_cons (execS_Assign_Name (evalS_Call ?_))
  k_steps
  refine callWithS_T0 (ba_K (by assumption) (by assumption) ?_)
  intro d h9 F9 N9 l9
  k_steps
  refine execsS_cons (execS_For ?_)
  k_steps
  rename_i hf g9 L9 hA FG9 B9 X9 T9 ol hB la hC pd hE od lo hs fs hi fi lb hF hG F8 N8
  have a1 : ol < pd := lb.1
  have a2 : pd < d := l9 _ (.head _)
  have a3 : ol < d := Nat.lt_trans a1 a2
  k_lt2 a1
  k_lt2 a2
  k_lt2 a3
  have r1 : ∀ p ∈ news, p.1 ≠ ol := fun p hp => Nat.ne_of_lt (la p hp)
  have r2 : ∀ p ∈ news, p.1 ≠ pd := fun p hp => Nat.ne_of_lt (Nat.lt_trans (la p hp) a1)
  have r3 : ∀ p ∈ news, p.1 ≠ d := fun p hp => Nat.ne_of_lt (Nat.lt_trans (la p hp) a3)
  have hsL : (sizeLine : Nat) = 2 ^ 24 := rfl
  refine withM F8 fun m0 hm0 => ?_
  have F7 : Fr g9 L9 hG m0 := hm0 ▸ F8
  refine forS_list (vs := vs) (k := k) (x := Str.ofString "part") (fun i m' nx => ∃ p1 p2 os k1 o kvs b, m' = ovr2 (Str.ofString "place") (Str.ofString "part") p1 p2 m0 ∧ nx = (d, baObj b) :: (pd, o) :: (ol, lobj os k1) :: news ∧
    IntsAre os (lfold begin (ps.take i)).offs ∧ o.IsDictOf (bytesKind _ w) kvs ∧ Places kvs (lfold begin (ps.take i)).places ∧ KBw.bInts b = (lfold begin (ps.take i)).out) rfl rfl rfl F7 N8 (.tail _ (.tail _ (.tail _ hl)))
    ⟨_, _, [], 0, od, [], #[], ovr2_self _ _ _, rfl, .nil, empty_any hi, .nil, rfl⟩ ?_ ?_
  · intro i v m₁ nx I it h tk hvi hJ off hl2 F' N'
    obtain ⟨p1, p2, os, k1, o, kvs, b, rfl, rfl, hos, hdo, hpl, hbo⟩ := hJ
    obtain ⟨bb, tt, rfl, hpi⟩ := hv.at hvi
    subst hm0
    have hlt : i < ps.length := by
      rcases Nat.lt_or_ge i ps.length with h | h
      · exact h
      · rw [List.getElem?_eq_none h] at hpi; cases hpi
    have htake : ps.take (i + 1) = ps.take i ++ [KBw.bInts bb] := by rw [List.take_add_one, hpi]; rfl
    have bnd := lfold_bounds begin (ps.take i) (fun p hp => h4 p (List.mem_of_mem_take hp))
    rw [List.length_take] at bnd
    have hbs : b.size ≤ 4 * i := by rw [← bInts_len, hbo]; omega
    have hbz : b.size ≤ sizeLine := by omega
    have hkl : kvs.length ≤ sizeLine := by rw [hpl.len]; omega
    have hol : os.toArray.size ≤ sizeLine := by rw [List.size_toArray, hos.length, bnd.2.2]; omega
    have hmost : begin + (b.size : Int) ≤ 65535 := by omega
    have i1 := off _ (.head _)
    have i2 := off _ (.tail _ (.head _))
    have i3 := off _ (.tail _ (.tail _ (.head _)))
    replace i1 := neN i1
    replace i2 := neN i2
    replace i3 := neN i3
    cases hq : (lfold begin (ps.take i)).places.lookup (KBw.bInts bb) with
    | some n =>
      obtain ⟨tq, hval⟩ := hpl.some hq
      refine execsS_cons (execS_If ?_)
      k_steps
      refine execsS_cons (execS_If ?_)
      k_steps
      refine execsS_any ?_
      k_steps
      refine execsS_nil ?_
      dsimp only
      refine execsS_nil ?_
      dsimp only
      refine execsS_nil ?_
      rename Fr _ _ _ _ => F8
      rename News _ _ _ (_ :: _ :: _ :: _ :: _) => N8
      refine UnrEnd.intro F8 N8 ((d, baObj b) :: (pd, o) :: (ol, lobj (os ++ [.int n tq]) (k1 + 1)) :: news) (fun p hp => by simpa using hp) (fun p hp => ?_) ⟨.tail _ (.tail _ (.tail _ hl)), p1, _, os ++ [.int n tq], k1 + 1, o, kvs, b, ovr2_2 (by decide), rfl, ?_, hdo, ?_, ?_⟩
      · rcases List.mem_cons.mp hp with rfl | hp
        · exact i1
        rcases List.mem_cons.mp hp with rfl | hp
        · exact i2
        rcases List.mem_cons.mp hp with rfl | hp
        · exact i3
        exact off p (.tail _ (.tail _ (.tail _ hp)))
      all_goals rw [htake, lfold_snoc, lstep, hq]
      · exact IntsAre.append hos (.cons _ _ .nil)
      · exact hpl
      · exact hbo
    | none =>
      have hval := hpl.none hq
      refine execsS_cons (execS_If ?_)
      k_steps
      refine execsS_cons (execS_If ?_)
      k_steps
      refine execsS_any ?_
      k_steps
      refine execsS_any ?_
      k_steps
      refine execsS_any ?_
      k_steps
      refine execsS_any ?_
      k_steps
      refine execsS_cons (execS_Expr (evalS_Method ?_))
      k_steps
      refine callWithS_B ?_
      k_steps
      rename Obj.IsDictOf (bytesKind _ _) _ (stored _ _ _) => hdn
      rw [stored_new hval] at hdn
      have hbl : bb.size = 4 := by rw [← bInts_len]; exact h4 _ (List.mem_of_getElem? hpi)
      refine extend_K (by assumption) (by assumption) (.tail (Ne.symm i1) (.head (fun p hp => ?_))) (by rw [Array.size_append]; omega) ?_
      · rcases List.mem_cons.mp hp with rfl | hp
        · exact Nat.ne_of_lt a2
        rcases List.mem_cons.mp hp with rfl | hp
        · exact Nat.ne_of_lt a3
        exact r3 p hp
      intro h7 F7' N7
      dsimp only
      refine execsS_nil ?_
      dsimp only
      refine execsS_nil ?_
      dsimp only
      refine execsS_nil ?_
      rw [lobj_push] at N7
      refine UnrEnd.intro F7' N7 _ (fun _ hp => hp) (fun p hp => ?_) ⟨.tail _ (.tail _ (.tail _ hl)), _, _, _, k1 + 1, _, _, b ++ bb, ovr2_12, rfl, ?_, hdn, ?_, ?_⟩
      · rcases List.mem_cons.mp hp with rfl | hp
        · exact i1
        rcases List.mem_cons.mp hp with rfl | hp
        · exact i2
        rcases List.mem_cons.mp hp with rfl | hp
        · exact i3
        exact off p (.tail _ (.tail _ (.tail _ hp)))
      all_goals rw [htake, lfold_snoc, lstep, hq]
      all_goals dsimp only
      · rw [← hbo, bInts_len]
        exact IntsAre.append hos (.cons _ _ .nil)
      · rw [← hbo, bInts_len]
        exact hpl.snoc _ _ _
      · rw [← hbo]
        exact bInts_app _ _
  · intro m₁ nx h tk hJ F' N'
    obtain ⟨p1, p2, os, k1, o, kvs, b, rfl, rfl, hos, hdo, hpl, hbo⟩ := hJ
    subst hm0
    have bnd := lfold_bounds begin (ps.take vs.length) (fun p hp => h4 p (List.mem_of_mem_take hp))
    have hbs : b.size ≤ 1000 := by rw [← bInts_len, hbo]; rw [List.length_take] at bnd; omega
    refine execsS_any ?_
    k_steps
    have hvl := hv.len
    rw [hvl, List.take_length] at hos hbo
    rename News h₀ L _ (_ :: _ :: _) => N7
    exact hret _ _ _ _ ⟨_, ol, os, k1, _, b, _, rfl, ⟨hos, hbo⟩, rfl⟩ (by assumption) (cb_drop N7 (sub4 _ _ _ _ _))
end

section
abbrev carO (c : Car) (tw tv : Tok) (k : Nat) : Obj := tup2 (.str c.word tw) (.int c.v tv) k
inductive CarsAre (nw : List (Addr × Obj)) : List Value → List Car → Prop
  | nil : CarsAre nw [] []
  | cons (a : Addr) (c : Car) (tw tv : Tok) (k : Nat) {vs cs} : (a, carO c tw tv k) ∈ nw → CarsAre nw vs cs → CarsAre nw (.ref a :: vs) (c :: cs)
theorem CarsAre.len {nw vs cs} (h : CarsAre nw vs cs) : vs.length = cs.length := by induction h <;> simp_all
theorem CarsAre.at {nw vs cs} (h : CarsAre nw vs cs) {i : Nat} {v : Value} (e : vs[i]? = some v) : ∃ a c tw tv k, v = .ref a ∧ (a, carO c tw tv k) ∈ nw ∧ cs[i]? = some c := by
  induction h generalizing i with
  | nil => simp at e
  | cons a c tw tv k hm h ih =>
    cases i with
    | zero => simp at e; exact ⟨a, c, tw, tv, k, e.symm, hm, rfl⟩
    | succ i => simpa using ih (by simpa using e)
theorem CarsAre.mono {nw nw' vs cs} (h : CarsAre nw vs cs) (hs : ∀ p ∈ nw, p ∈ nw') : CarsAre nw' vs cs := by
  induction h with
  | nil => exact .nil
  | cons a c tw tv k hm h ih => exact .cons a c tw tv k (hs _ hm) ih
theorem CarsAre.snoc {nw vs cs} (h : CarsAre nw vs cs) {a : Addr} {c : Car} {tw tv : Tok} {k : Nat} (hm : (a, carO c tw tv k) ∈ nw) : CarsAre nw (vs ++ [.ref a]) (cs ++ [c]) := by
  induction h with
  | nil => exact .cons a c tw tv k hm .nil
  | cons a' c' tw' tv' k' hm' h ih => exact .cons a' c' tw' tv' k' hm' ih
theorem spec_write {w : World} {news : List (Addr × Obj)} {a : Addr} {c : Car} {tw tv : Tok} {k : Nat} (hc : (a, carO c tw tv k) ∈ news) (hok : c.ok) :
    SpecS w 302 12 120 [.ref a] news (fun r n' => ∃ t, (∃ b, r = .bytes b t ∧ KBw.bInts b = c.enc) ∧ news = n') := by
  obtain ⟨pt, v⟩ := c
  cases pt with
  | true => exact spec_write_pt hc hok.1 hok.2
  | false => exact spec_write_at hc hok.1 hok.2
def wordB (n : Int) : List Int := [n / 256, n % 256]
def rowEnc (cs : List Car) : List Int := wordB cs.length ++ (lfold (2 + 2 * (cs.length : Int)) (cs.map Car.enc)).offs.flatMap wordB ++ (lfold (2 + 2 * (cs.length : Int)) (cs.map Car.enc)).out
theorem splicedS_more {M : Model} {A : Around} {s : Shared} {env : Env} {e : Expr} {rest : List Expr} {pos : Pos} {Q : List Value → Shared → Prop}
    (h : wpS M A (eval e env) (fun v s₁ => wpS M A (spliced (backTo pos (starEach rest env))) (fun vs s₂ => Q (v :: vs) s₂) s₁) s)
    (he : starEach (e :: rest) env = (false, eval e env) :: starEach rest env := by rfl) : wpS M A (spliced (backTo pos (starEach (e :: rest) env))) Q s := by
  rw [he]; exact splicedS_cons h
theorem splicedS_none {M : Model} {A : Around} {s : Shared} {env : Env} {pos : Pos} {Q : List Value → Shared → Prop} (h : Q [] s) : wpS M A (spliced (backTo pos (starEach [] env))) Q s := splicedS_nil h
theorem lfold_range (begin : Int) (ps : List (List Int)) (h : ∀ p ∈ ps, p.length = 4) : ∀ o ∈ (lfold begin ps).offs, begin ≤ o ∧ o ≤ begin + 4 * ps.length := by
  have gen : ∀ (qs : List (List Int)) (s : LSt) (k : Nat), (∀ p ∈ qs, p.length = 4) → s.out.length ≤ 4 * k → (∀ o ∈ s.offs, begin ≤ o ∧ o ≤ begin + 4 * k) → (∀ p o, s.places.lookup p = some o → begin ≤ o ∧ o ≤ begin + 4 * k) →
      ∀ o ∈ (qs.foldl (lstep begin) s).offs, begin ≤ o ∧ o ≤ begin + 4 * ((k + qs.length : Nat) : Int) := by
    intro qs
    induction qs with
    | nil => intro s k _ _ b _; exact b
    | cons q qs ih =>
      intro s k h a b c
      have hq := h q (List.mem_cons_self ..)
      have z := ih (lstep begin s q) (k + 1) (fun p hp => h p (List.mem_cons_of_mem _ hp))
      have e : k + (q :: qs).length = k + 1 + qs.length := by simp only [List.length_cons]; omega
      rw [e]
      show ∀ o ∈ (qs.foldl (lstep begin) (lstep begin s q)).offs, _
      have b' : ∀ o ∈ s.offs, begin ≤ o ∧ o ≤ begin + 4 * ((k + 1 : Nat) : Int) := fun o ho => by have := b o ho; omega
      have c' : ∀ p o, s.places.lookup p = some o → begin ≤ o ∧ o ≤ begin + 4 * ((k + 1 : Nat) : Int) := fun p o ho => by have := c p o ho; omega
      cases hl : s.places.lookup q with
      | some n =>
        have es : lstep begin s q = ⟨s.offs ++ [n], s.places, s.out⟩ := by unfold lstep; rw [hl]
        rw [es] at z ⊢
        refine z (by show s.out.length ≤ _; omega) (fun o ho => ?_) c'
        rcases List.mem_append.mp ho with ho | ho
        · exact b' o ho
        · rw [List.mem_singleton.mp ho]; exact c' _ _ hl
      | none =>
        have es : lstep begin s q = ⟨s.offs ++ [begin + s.out.length], s.places ++ [(q, begin + s.out.length)], s.out ++ q⟩ := by unfold lstep; rw [hl]
        rw [es] at z ⊢
        refine z (by show (s.out ++ q).length ≤ _; rw [List.length_append]; omega) (fun o ho => ?_) (fun p o ho => ?_)
        · rcases List.mem_append.mp ho with ho | ho
          · exact b' o ho
          · rw [List.mem_singleton.mp ho]; omega
        · replace ho : (s.places ++ [(q, begin + (s.out.length : Int))]).lookup p = some o := ho
          rw [List.lookup_append] at ho
          cases hp : s.places.lookup p with
          | some n => rw [hp] at ho; cases ho; exact c' _ _ hp
          | none =>
            rw [hp] at ho
            simp only [Option.none_or, List.lookup_cons, List.lookup_nil] at ho
            split at ho
            · cases ho; omega
            · cases ho
  have z := gen ps ⟨[], [], []⟩ 0 h (Nat.zero_le _) (fun o ho => by cases ho) (fun p o ho => by cases ho)
  simpa [lfold] using z
theorem enc_len (c : Car) : c.enc.length = 4 := rfl
local macro_rules | `(tactic| walk_at "mine specS") => `(tactic| first
  | (with_reducible show SpecS _ 302 _ _ _ _ _); exact spec_write (by k_mem) (by assumption)
  | (with_reducible show SpecS _ 276 _ _ _ _ _); exact spec_laid (by k_mem) (by assumption) (by assumption) (by omega) (by omega)
  | (with_reducible show SpecS _ 264 _ _ _ _ _); exact spec_out_new
  | (with_reducible show SpecS _ 207 _ _ _ _ _); exact spec_out_u16 (by omega) (by omega) (by assumption) (by assumption) (by assumption) (by assumption) (by assumption)
  | (with_reducible show SpecS _ 247 _ _ _ _ _); exact spec_out_add (by omega) (by omega) (by assumption) (by assumption) (by assumption) (by assumption))
local macro_rules | `(tactic| walk_at "mine spec") => `(tactic| ((with_reducible show Spec _ 261 _ _ _ _ _); exact spec_out_octets (by assumption)))
abbrev ovr1 (x1 : Str) (p1 : Option Value) (m : Str → Option Value) : Str → Option Value := fun y => if y = x1 then p1 else m y
theorem ovr1_self (x1 : Str) (m : Str → Option Value) : m = ovr1 x1 (m x1) m := by
  funext y
  unfold ovr1
  split
  · subst_vars; rfl
  · rfl
theorem ovr1_1 {x1 : Str} {p1 : Option Value} {v : Value} {m : Str → Option Value} : (fun y => if y = x1 then some v else ovr1 x1 p1 m y) = ovr1 x1 (some v) m := by
  funext y
  unfold ovr1
  by_cases e1 : y = x1 <;> simp [e1]
theorem flatW_len (l : List Int) : (l.flatMap wordB).length = 2 * l.length := by
  induction l with
  | nil => rfl
  | cons a l ih => rw [List.flatMap_cons, List.length_append, ih]; simp [wordB]; omega
theorem news_rot4 {h₀ h : Heap} {L : Addr} {a b c e : Addr × Obj} {r : List (Addr × Obj)} (N : News h₀ L h (a :: b :: c :: e :: r)) : News h₀ L h (b :: c :: e :: a :: r) := fun p hp => N p (by
  simp only [List.mem_cons] at hp ⊢
  rcases hp with h | h | h | h | h <;> simp [h])
theorem news_rot4' {h₀ h : Heap} {L : Addr} {a b c e : Addr × Obj} {r : List (Addr × Obj)} (N : News h₀ L h (b :: c :: e :: a :: r)) : News h₀ L h (a :: b :: c :: e :: r) := fun p hp => N p (by
  simp only [List.mem_cons] at hp ⊢
  rcases hp with h | h | h | h | h <;> simp [h])
theorem off_chg {I d : Addr} {a b : Addr × Obj} {o o' : Obj} {r : List (Addr × Obj)} (h : ∀ p ∈ a :: b :: (d, o) :: r, p.1 ≠ I) : ∀ p ∈ a :: b :: (d, o') :: r, p.1 ≠ I := fun p hp => by
  rcases List.mem_cons.mp hp with rfl | hp
  · exact h _ (.head _)
  rcases List.mem_cons.mp hp with rfl | hp
  · exact h _ (.tail _ (.head _))
  rcases List.mem_cons.mp hp with rfl | hp
  · exact h (d, o) (.tail _ (.tail _ (.head _)))
  exact h _ (.tail _ (.tail _ (.tail _ hp)))
theorem spec_write_row {w : World} {news : List (Addr × Obj)} {l : Addr} {vs : List Value} {k : Nat} {cs : List Car} (hl : (l, lobj vs k) ∈ news) (hv : CarsAre news vs cs) (hok : ∀ c ∈ cs, c.ok) (hn : cs.length ≤ 20) :
    SpecS w 307 20 200 [.ref l] news (fun r n' => ∃ t, (∃ b, r = .bytes b t ∧ KBw.bInts b = rowEnc cs) ∧ news = n') := by
  unfold SpecS
  intro dp un gd cn cs' a ccd cl outer A₀ base h₀ L m s mean mg mb Q B F X N T hk hd hu hret
  have hlen := hv.len
  have hfit : (vs.toArray.size : Int) < 2 ^ 63 := by simp; omega
  walk_at "mine fill"
  refine wpS_call ?_
  walk_at "mine enterS"
  refine execsS_cons (execS_Assign_Tuple (evalS_Call ?_))
  k_steps
  k_dflt (refine' callWithS_KS ?k0 ?k1 ?_; (case k0 => k_asm); (case k1 => k_is); k_whole)
  refine splicedS_more (wpS_of_any ?_)
  k_steps
  refine splicedS_more ?_
  refine ListComp_S rfl rfl (by decide) ?_
  k_steps
  refine comp_list_S (fun i ys nx => news = nx ∧ BytesAre ys ((cs.take i).map Car.enc)) rfl (by decide) rfl rfl (by assumption) (by assumption) hl (by have hsL : (sizeLine : Nat) = 2 ^ 24 := rfl; omega) ⟨rfl, .nil⟩ ?_ ?_
  · intro i v ys nx I oI C oC D m₂ h tk hvi hJ hl2 hC hx2 F' N' off ne
    obtain ⟨rfl, hB⟩ := hJ
    obtain ⟨a1, c, tw, tv, k1, rfl, hm, hci⟩ := hv.at hvi
    have hco : c.ok := hok c (List.mem_of_getElem? hci)
    refine evalS_Call ?_
    k_steps
    walk_at "mine callK"
    k_steps
    walk_at "mine useS"
    intro v1 n1 h1' tk1 hp F1 N1
    obtain ⟨t1, ⟨b1, rfl, hb1⟩, rfl⟩ := hp
    refine LCg.CompEnd.intro F1 N1 _ (fun _ hp => hp) off hl ⟨rfl, ?_⟩
    rw [List.take_add_one, hci, List.map_append]
    have z := hB.snoc b1 t1
    rw [hb1] at z
    exact z
  · intro D ys nx h tk hJ F' N' off
    obtain ⟨rfl, hB⟩ := hJ
    rw [hlen, List.take_length] at hB
    refine splicedS_none ?_
    refine ⟨by k_in, ?_⟩
    have hbl : (cs.map Car.enc).length = cs.length := List.length_map ..
    have hb4 : ∀ p ∈ cs.map Car.enc, p.length = 4 := fun p hp => by obtain ⟨c, _, rfl⟩ := List.mem_map.mp hp; rfl
    have hvs : ((vs.toArray.size : Nat) : Int) = (cs.length : Int) := by simp [hlen]
    dsimp only [List.nil_append]
    walk_at "mine useS"
    intro v2 n2 h2' tk2 hp F2 N2
    obtain ⟨tp, ol, os, k1, k2, ob, t, rfl, ⟨hos, hob⟩, rfl⟩ := hp
    rw [hvs] at hos hob
    have hrg := lfold_range (2 + 2 * (cs.length : Int)) (cs.map Car.enc) hb4
    have hbd := lfold_bounds (2 + 2 * (cs.length : Int)) (cs.map Car.enc) hb4
    rw [hbl] at hrg hbd
    k_steps
    refine execsS_cons (execS_Assign_Name (evalS_Call ?_))
    k_steps
    walk_at "mine callK0"
    walk_at "mine useS"
    intro v3 n3 h3' tk3 hp F3 N3
    obtain ⟨x, dx, d, kk, hh1, rfl, ⟨l1, l2, l3⟩, rfl⟩ := hp
    have e1 : x ≠ dx := Nat.ne_of_gt l2
    have e2 : x ≠ d := Nat.ne_of_lt l3
    have e3 : dx ≠ d := Nat.ne_of_lt (Nat.lt_trans l2 l3)
    have hr := fun p hp => Nat.ne_of_lt (Nat.lt_trans (l1 p hp) (Nat.lt_trans l2 l3))
    have hz0 : (#[] : Array UInt8).size ≤ 1000 := by decide
    k_steps
    refine execsS_cons (execS_Expr (evalS_Method ?_))
    k_steps
    walk_at "mine callK"
    k_steps
    walk_at "mine useS"
    intro v4 n4 h4' tk4 hp F4 N4
    obtain ⟨c0, rfl, hc0, rfl⟩ := hp
    rw [hvs] at hc0
    dsimp only
    refine execsS_cons (execS_For ?_)
    k_steps
    have hoffl : (lfold (2 + 2 * (cs.length : Int)) (cs.map Car.enc)).offs.length = cs.length := hbd.2.2
    refine withM F4 fun m0 hm0 => ?_
    have F5 := hm0 ▸ F4
    refine forS_list (vs := os) (k := k1) (x := Str.ofString "offset") (fun i m' nx => ∃ p1 b, m' = ovr1 (Str.ofString "offset") p1 m0 ∧ nx = outLed x dx d b kk hh1 ((tp, tup2 (.ref ol) (.bytes ob t) k2) :: (ol, lobj os k1) :: (D, LCg.lst ys) :: news) ∧
      KBw.bInts b = wordB cs.length ++ ((lfold (2 + 2 * (cs.length : Int)) (cs.map Car.enc)).offs.take i).flatMap wordB) rfl rfl rfl F5 N4 (.tail _ (.tail _ (.tail _ (.tail _ (.head _))))) ⟨_, c0, ovr1_self _ _, rfl, hc0⟩ ?_ ?_
    · intro i v m₁ nx I it h tk hvi hJ off hl2 F' N'
      obtain ⟨p1, b, rfl, rfl, hb⟩ := hJ
      obtain ⟨n, tn, rfl, hni⟩ := IntsAre.at hos i v hvi
      subst hm0
      have hn1 := hrg n (List.mem_of_getElem? hni)
      have hil : i < cs.length := by
        rcases Nat.lt_or_ge i cs.length with h | h
        · exact h
        · rw [List.getElem?_eq_none (by omega)] at hni; cases hni
      have hbs : b.size ≤ 1000 := by
        rw [← bInts_len, hb, List.length_append, flatW_len, List.length_take]
        show 2 + _ ≤ _
        omega
      have hr2 : ∀ p ∈ (I, it) :: (tp, tup2 (.ref ol) (.bytes ob t) k2) :: (ol, lobj os k1) :: (D, LCg.lst ys) :: news, p.1 ≠ d := fun p hp => by
        rcases List.mem_cons.mp hp with rfl | hp
        · exact Ne.symm (off (d, baObj b) (.tail _ (.tail _ (.head _))))
        exact hr p hp
      have N2' := news_rot4 N'
      clear N'
      refine execsS_cons (execS_Expr (evalS_Method ?_))
      k_steps
      walk_at "mine callK"
      k_steps
      walk_at "mine useS"
      intro v5 n5 h5' tk5 hp F5' N5
      obtain ⟨c5, rfl, hc5, rfl⟩ := hp
      dsimp only
      refine execsS_nil ?_
      refine UnrEnd.intro F5' (news_rot4' N5) _ (fun _ hp => hp) (off_chg off) ⟨.tail _ (.tail _ (.tail _ (.tail _ (.head _)))), _, c5, ovr1_1, rfl, ?_⟩
      rw [hc5, hb, List.take_add_one, hni, List.flatMap_append, List.append_assoc]
      simp [wordB]
    · intro m₁ nx h tk hJ F' N'
      obtain ⟨p1, b, rfl, rfl, hb⟩ := hJ
      subst hm0
      rw [hos.length, List.take_length] at hb
      have hbs : b.size ≤ 1000 := by
        rw [← bInts_len, hb, List.length_append, flatW_len]
        show 2 + _ ≤ _
        omega
      have hobs : ob.size ≤ 1000 := by rw [← bInts_len, hob]; omega
      refine execsS_cons (execS_Expr (evalS_Method ?_))
      k_steps
      walk_at "mine callK"
      k_steps
      walk_at "mine useS"
      intro v6 n6 h6' tk6 hp F6 N6
      obtain ⟨rfl, rfl⟩ := hp
      have hbo : (b ++ ob).size ≤ 1000 := by
        have h1 : b.size = 2 + 2 * cs.length := by rw [← bInts_len, hb, List.length_append, flatW_len, hoffl]; rfl
        have h2 : ob.size ≤ 4 * cs.length := by rw [← bInts_len, hob]; exact hbd.1
        rw [Array.size_append]; omega
      dsimp only
      refine execsS_any ?_
      k_steps
      rename News h₀ L _ (_ :: _) => N8
      refine hret _ _ _ _ ⟨_, ⟨_, rfl, ?_⟩, rfl⟩ (by assumption) (cb_drop N8 fun _ h => .tail _ (.tail _ (.tail _ (.tail _ (.tail _ (.tail _ h))))))
      rw [bInts_app, hb, hob]
      rfl
end

section
open PySem.Calls PySem.Spec
noncomputable def ix {α : Type} [DecidableEq α] : List α → α → Nat
  | [], _ => 0
  | a :: r, x => if a = x then 0 else ix r x + 1
theorem ix_ne {α : Type} [DecidableEq α] {a x : α} {r : List α} (h : ¬ a = x) : ix (a :: r) x = ix r x + 1 := by rw [ix, if_neg h]
theorem ix_self {α : Type} [DecidableEq α] {a : α} {r : List α} : ix (a :: r) a = 0 := by rw [ix, if_pos rfl]
theorem ix_app {α : Type} [DecidableEq α] {x : α} {r : List α} : ∀ {u : List α}, x ∈ u → ix (u ++ r) x = ix u x
  | a :: u, h => by
    by_cases e : a = x
    · subst e; rw [List.cons_append, ix_self, ix_self]
    · rw [List.cons_append, ix_ne e, ix_ne e, ix_app ((List.mem_cons.mp h).resolve_left fun q => e q.symm)]
theorem ix_new {α : Type} [DecidableEq α] {x : α} : ∀ {u : List α}, ¬ x ∈ u → ix (u ++ [x]) x = u.length
  | [], _ => by rw [List.nil_append, ix_self]; rfl
  | a :: u, h => by
    have e : ¬ a = x := fun q => h (by rw [q]; exact .head _)
    rw [List.cons_append, ix_ne e, ix_new fun q => h (.tail _ q), List.length_cons]
theorem ix_lt {α : Type} [DecidableEq α] {x : α} : ∀ {u : List α}, x ∈ u → ix u x < u.length
  | a :: u, h => by
    by_cases e : a = x
    · subst e; rw [ix_self]; exact Nat.succ_pos _
    · rw [ix_ne e, List.length_cons]; exact Nat.succ_lt_succ (ix_lt ((List.mem_cons.mp h).resolve_left fun q => e q.symm))
theorem ix_get {α : Type} [DecidableEq α] {x : α} : ∀ {u : List α}, x ∈ u → u[ix u x]? = some x
  | a :: u, h => by
    by_cases e : a = x
    · subst e; rw [ix_self]; rfl
    · rw [ix_ne e, List.getElem?_cons_succ]; exact ix_get ((List.mem_cons.mp h).resolve_left fun q => e q.symm)
theorem ix_split {α : Type} [DecidableEq α] {x : α} : ∀ {u : List α}, x ∈ u → u = u.take (ix u x) ++ x :: u.drop (ix u x + 1)
  | a :: u, h => by
    by_cases e : a = x
    · subst e; rw [ix_self]; rfl
    · rw [ix_ne e]
      have := ix_split ((List.mem_cons.mp h).resolve_left fun q => e q.symm)
      rw [List.take_succ_cons, List.drop_succ_cons, List.cons_append, ← this]
def ustep {α : Type} [DecidableEq α] (u : List α) (p : α) : List α := if p ∈ u then u else u ++ [p]
def uniq {α : Type} [DecidableEq α] (l : List α) : List α := l.foldl ustep []
theorem uniq_snoc {α : Type} [DecidableEq α] (l : List α) (p : α) : uniq (l ++ [p]) = ustep (uniq l) p := by simp [uniq]
theorem ustep_sub {α : Type} [DecidableEq α] (u : List α) (p q : α) (h : q ∈ u) : q ∈ ustep u p := by unfold ustep; split <;> simp [h]
theorem ustep_self {α : Type} [DecidableEq α] (u : List α) (p : α) : p ∈ ustep u p := by unfold ustep; split <;> simp [*]
theorem ustep_idx {α : Type} [DecidableEq α] (u : List α) (p q : α) (h : q ∈ u) : ix (ustep u p) q = ix u q := by
  unfold ustep
  split
  · rfl
  · exact ix_app h
theorem ustep_from {α : Type} [DecidableEq α] (u : List α) (p q : α) (h : q ∈ ustep u p) : q ∈ u ∨ q = p := by
  unfold ustep at h
  split at h
  · exact .inl h
  · rcases List.mem_append.mp h with h | h
    · exact .inl h
    · exact .inr (List.mem_singleton.mp h)
/-- places from the list of the unlike -/
def plOf (begin : Int) (u : List (List Int)) : List (List Int × Int) := u.zipIdx.map fun x => (x.1, begin + 4 * (x.2 : Int))
theorem plOf_snoc (begin : Int) (u : List (List Int)) (p : List Int) : plOf begin (u ++ [p]) = plOf begin u ++ [(p, begin + 4 * (u.length : Int))] := by
  simp [plOf, List.zipIdx_append]
theorem plOf_lookup (begin : Int) (p : List Int) : ∀ (u : List (List Int)) (k : Nat), ((u.zipIdx k).map fun x => (x.1, begin + 4 * (x.2 : Int))).lookup p = if p ∈ u then some (begin + 4 * ((k + ix u p : Nat) : Int)) else none
  | [], _ => rfl
  | q :: u, k => by
    rw [List.zipIdx_cons, List.map_cons, List.lookup_cons, plOf_lookup begin p u (k + 1)]
    by_cases e : p = q
    · subst e; simp [ix_self]
    · have e2 : (p == q) = false := by simpa using e
      have e3 : ¬ q = p := fun x => e x.symm
      rw [e2]
      simp only [List.mem_cons, e, false_or, ix_ne e3]
      by_cases hm : p ∈ u
      · simp only [hm, if_true]; congr 2; omega
      · simp [hm]
theorem flat4 {u : List (List Int)} (h : ∀ p ∈ u, p.length = 4) : u.flatten.length = 4 * u.length := by
  induction u with
  | nil => rfl
  | cons p u ih => rw [List.flatten_cons, List.length_append, ih fun q hq => h q (.tail _ hq), h p (.head _), List.length_cons]; omega
theorem lfold_closed (begin : Int) (ps : List (List Int)) (h4 : ∀ p ∈ ps, p.length = 4) :
    lfold begin ps = ⟨ps.map fun p => begin + 4 * (ix (uniq ps) p : Int), plOf begin (uniq ps), (uniq ps).flatten⟩ := by
  have gen : ∀ (qs ps₀ : List (List Int)), (∀ p ∈ qs, p.length = 4) → (∀ p ∈ uniq ps₀, p.length = 4) → (∀ p ∈ ps₀, p ∈ uniq ps₀) →
      qs.foldl (lstep begin) ⟨ps₀.map fun p => begin + 4 * (ix (uniq ps₀) p : Int), plOf begin (uniq ps₀), (uniq ps₀).flatten⟩ =
        ⟨(ps₀ ++ qs).map fun p => begin + 4 * (ix (uniq (ps₀ ++ qs)) p : Int), plOf begin (uniq (ps₀ ++ qs)), (uniq (ps₀ ++ qs)).flatten⟩ := by
    intro qs
    induction qs with
    | nil => intro ps₀ _ _ _; simp
    | cons q qs ih =>
      intro ps₀ a b c
      have hq := a q (.head _)
      have e : ps₀ ++ q :: qs = (ps₀ ++ [q]) ++ qs := by simp
      rw [e, ← ih (ps₀ ++ [q]) (fun p hp => a p (.tail _ hp)) (fun p hp => ?_) (fun p hp => ?_)]
      · show qs.foldl (lstep begin) (lstep begin _ q) = _
        congr 1
        have hl : (plOf begin (uniq ps₀)).lookup q = if q ∈ uniq ps₀ then some (begin + 4 * ((0 + ix (uniq ps₀) q : Nat) : Int)) else none := plOf_lookup begin q _ 0
        rw [uniq_snoc]
        have old : ∀ x ∈ ps₀, (begin + 4 * ((ix (ustep (uniq ps₀) q) x : Nat) : Int)) = begin + 4 * ((ix (uniq ps₀) x : Nat) : Int) := fun x hx => by rw [ustep_idx _ _ _ (c x hx)]
        have e1 : (ps₀ ++ [q]).map (fun p => begin + 4 * ((ix (ustep (uniq ps₀) q) p : Nat) : Int)) = ps₀.map (fun p => begin + 4 * ((ix (uniq ps₀) p : Nat) : Int)) ++ [begin + 4 * ((ix (ustep (uniq ps₀) q) q : Nat) : Int)] := by
          rw [List.map_append, List.map_congr_left old]; rfl
        rw [e1]
        by_cases hm : q ∈ uniq ps₀
        · have eu : ustep (uniq ps₀) q = uniq ps₀ := by unfold ustep; rw [if_pos hm]
          unfold lstep
          simp only [hl, if_pos hm, eu, Nat.zero_add]
        · have eu : ustep (uniq ps₀) q = uniq ps₀ ++ [q] := by unfold ustep; rw [if_neg hm]
          have ei : ix (uniq ps₀ ++ [q]) q = (uniq ps₀).length := ix_new hm
          unfold lstep
          simp only [hl, if_neg hm, eu, ei, flat4 b, plOf_snoc, List.flatten_append, List.flatten_cons, List.flatten_nil, List.append_nil]
          push_cast
          rfl
      · rw [uniq_snoc] at hp
        rcases ustep_from _ _ _ hp with hp | hp
        · exact b p hp
        · rw [hp]; exact hq
      · rw [uniq_snoc]
        rcases List.mem_append.mp hp with hp | hp
        · exact ustep_sub _ _ _ (c p hp)
        · rw [List.mem_singleton.mp hp]; exact ustep_self _ _
  have z := gen ps [] h4 (fun p hp => by cases hp) (fun p hp => by cases hp)
  exact z
theorem uniq_mem {α : Type} [DecidableEq α] (l : List α) : ∀ x, x ∈ uniq l ↔ x ∈ l := by
  have gen : ∀ (l u : List α) x, x ∈ l.foldl ustep u ↔ x ∈ u ∨ x ∈ l := by
    intro l
    induction l with
    | nil => intro u x; simp
    | cons a l ih =>
      intro u x
      rw [List.foldl_cons, ih, List.mem_cons]
      constructor
      · rintro (h | h)
        · rcases ustep_from _ _ _ h with h | h
          · exact .inl h
          · exact .inr (.inl h)
        · exact .inr (.inr h)
      · rintro (h | h | h)
        · exact .inl (ustep_sub _ _ _ h)
        · subst h; exact .inl (ustep_self _ _)
        · exact .inr h
  intro x
  simpa [uniq] using gen l [] x
theorem idxOf_map {α β : Type} [DecidableEq α] [DecidableEq β] (g : α → β) : ∀ (u : List α) (x : α), (∀ a ∈ u, g a = g x → a = x) → ix (u.map g) (g x) = ix u x
  | [], _, _ => rfl
  | a :: u, x, h => by
    by_cases e : a = x
    · subst e; rw [List.map_cons, ix_self, ix_self]
    · have e2 : g a ≠ g x := fun q => e (h a (.head _) q)
      rw [List.map_cons, ix_ne e2, ix_ne e, idxOf_map g u x fun b hb => h b (.tail _ hb)]
theorem uniq_map {α β : Type} [DecidableEq α] [DecidableEq β] (g : α → β) (l : List α) (h : ∀ a ∈ l, ∀ b ∈ l, g a = g b → a = b) : uniq (l.map g) = (uniq l).map g := by
  have gen : ∀ (l u : List α), (∀ a ∈ l, ∀ b ∈ u ++ l, g a = g b → a = b) → (l.map g).foldl ustep (u.map g) = (l.foldl ustep u).map g := by
    intro l
    induction l with
    | nil => intro u _; rfl
    | cons a l ih =>
      intro u h
      rw [List.map_cons, List.foldl_cons, List.foldl_cons]
      have hm : g a ∈ u.map g ↔ a ∈ u := by
        constructor
        · intro q
          obtain ⟨b, hb, e⟩ := List.mem_map.mp q
          rw [h a (.head _) b (List.mem_append_left _ hb) e.symm]; exact hb
        · exact List.mem_map_of_mem
      have e : ustep (u.map g) (g a) = (ustep u a).map g := by
        unfold ustep
        by_cases q : a ∈ u
        · rw [if_pos q, if_pos (hm.mpr q)]
        · rw [if_neg q, if_neg fun x => q (hm.mp x), List.map_append]; rfl
      rw [e]
      refine ih _ fun x hx b hb => h x (.tail _ hx) b ?_
      rcases List.mem_append.mp hb with hb | hb
      · rcases ustep_from _ _ _ hb with hb | hb
        · exact List.mem_append_left _ hb
        · rw [hb]; exact List.mem_append_right _ (.head _)
      · exact List.mem_append_right _ (.tail _ hb)
  have z := gen l [] (by simpa using h)
  simpa [uniq] using z
theorem enc_inj {c d : Car} (hc : c.ok) (hd : d.ok) (h : c.enc = d.enc) : c = d := by
  obtain ⟨p, v⟩ := c
  obtain ⟨q, u⟩ := d
  simp only [Car.enc, Car.pt, Car.v, List.cons.injEq, true_and, and_true] at h
  simp only [Car.ok, Car.pt, Car.v] at hc hd
  obtain ⟨h1, h2, h3⟩ := h
  have hv : v % 65536 = u % 65536 := by omega
  cases p <;> cases q <;> simp at h1 hc hd
  · have : v = u := by omega
    rw [this]
  · have : v = u := by omega
    rw [this]
noncomputable abbrev offOf (cs : List Car) (c : Car) : Int := 2 + 2 * (cs.length : Int) + 4 * (ix (uniq cs) c : Int)
theorem lfold_cars (cs : List Car) (hok : ∀ c ∈ cs, c.ok) : lfold (2 + 2 * (cs.length : Int)) (cs.map Car.enc) = ⟨cs.map (offOf cs), plOf (2 + 2 * (cs.length : Int)) ((uniq cs).map Car.enc), ((uniq cs).map Car.enc).flatten⟩ := by
  have inj : ∀ a ∈ cs, ∀ b ∈ cs, a.enc = b.enc → a = b := fun a ha b hb e => enc_inj (hok a ha) (hok b hb) e
  rw [lfold_closed _ _ (fun p hp => by obtain ⟨c, _, rfl⟩ := List.mem_map.mp hp; rfl), uniq_map _ _ inj]
  congr 1
  rw [List.map_map]
  refine List.map_congr_left fun c hc => ?_
  show _ + 4 * ((ix (List.map Car.enc (uniq cs)) c.enc : Nat) : Int) = _
  rw [idxOf_map _ _ _ fun a ha e => inj a ((uniq_mem cs a).mp ha) c hc e]
theorem rowEnc_eq (cs : List Car) (hok : ∀ c ∈ cs, c.ok) : rowEnc cs = wordB cs.length ++ (cs.map (offOf cs)).flatMap wordB ++ ((uniq cs).map Car.enc).flatten := by
  unfold rowEnc
  rw [lfold_cars cs hok]
theorem uniq_len {α : Type} [DecidableEq α] (l : List α) : (uniq l).length ≤ l.length := by
  have gen : ∀ (l u : List α), (l.foldl ustep u).length ≤ u.length + l.length := by
    intro l
    induction l with
    | nil => intro u; simp
    | cons a l ih =>
      intro u
      have := ih (ustep u a)
      have h2 : (ustep u a).length ≤ u.length + 1 := by unfold ustep; split <;> simp
      rw [List.foldl_cons, List.length_cons]; omega
  simpa [uniq] using gen l []
theorem encs_len (u : List Car) : ((u.map Car.enc).flatten).length = 4 * u.length := by
  rw [flat4 (fun p hp => by obtain ⟨c, _, rfl⟩ := List.mem_map.mp hp; rfl), List.length_map]
theorem rowEnc_len (cs : List Car) (hok : ∀ c ∈ cs, c.ok) : (rowEnc cs).length = 2 + 2 * cs.length + 4 * (uniq cs).length := by
  rw [rowEnc_eq cs hok, List.length_append, List.length_append, flatW_len, encs_len, List.length_map]; rfl
/-- where a caret's octets stand in a written row -/
theorem rowEnc_at (cs : List Car) (hok : ∀ c ∈ cs, c.ok) {c : Car} (hc : c ∈ cs) : ∃ a z, rowEnc cs = a ++ c.enc ++ z ∧ offOf cs c = (a.length : Nat) := by
  have hm := (uniq_mem cs c).mpr hc
  have hi := ix_lt hm
  have e := ix_split hm
  refine ⟨wordB cs.length ++ (cs.map (offOf cs)).flatMap wordB ++ (((uniq cs).take (ix (uniq cs) c)).map Car.enc).flatten, (((uniq cs).drop (ix (uniq cs) c + 1)).map Car.enc).flatten, ?_, ?_⟩
  · rw [rowEnc_eq cs hok]
    conv => lhs; rw [e]
    simp only [List.map_append, List.map_cons, List.flatten_append, List.flatten_cons, List.append_assoc]
  · simp only [List.length_append, flatW_len, encs_len, List.length_map, List.length_take]
    have : (wordB (cs.length : Int)).length = 2 := rfl
    rw [this, Nat.min_eq_left (Nat.le_of_lt hi)]
    unfold offOf
    push_cast
    omega
end

section
/-- two octets y, z stand at i -/
def At2 (b : Array UInt8) (i y z : Int) : Prop := ∃ pre post, KBw.bInts b = pre ++ y :: z :: post ∧ i = (pre.length : Nat) ∧ pre.length + post.length ≤ 900
theorem spec_in_new' {w : World} {news : List (Addr × Obj)} {b : Array UInt8} {t : Tok} {i : Int} {ti : Tok} :
    Spec w 170 8 96 [.bytes b t, .int i ti] news (fun v n' => ∃ x dx k1 k2 h1 h2, v = .ref x ∧ (x ≠ dx ∧ ∀ p ∈ news, p.1 ≠ dx) ∧ inLed x dx b t i ti k1 k2 h1 h2 news = n') := by
  intro dp un gd cn cs a ccd cl outer A₀ base h₀ L m s mean mg mb Q E B F X N T hk hd hu hret
  refine spec_in_new _ _ _ _ _ _ _ _ _ _ _ _ _ _ _ _ _ _ _ _ B F X N T hk hd hu fun v n' h' tk' hp => hret v n' h' tk' ?_
  obtain ⟨x, dx, k1, k2, h1, h2, rfl, l1, l2, rfl⟩ := hp
  exact ⟨x, dx, k1, k2, h1, h2, rfl, ⟨Nat.ne_of_gt l2, fun p hp => Nat.ne_of_lt (l1 p hp)⟩, rfl⟩
theorem spec_in_u16' {w : World} {x dx : Addr} {b : Array UInt8} {t : Tok} {i : Int} {ti k1 k2 : Tok} {h1 h2 : Int} {rest : List (Addr × Obj)} {y z : Int} (h : At2 b i y z) (hx : x ≠ dx) (hr : ∀ p ∈ rest, p.1 ≠ dx) :
    Spec w 127 8 96 [.ref x] (inLed x dx b t i ti k1 k2 h1 h2 rest) (fun v n' => ∃ t' ti', v = .int (y * 256 + z) t' ∧ inLed x dx b t (i + 2) ti' k1 k2 h1 h2 rest = n') := by
  obtain ⟨pre, post, a, b, c⟩ := h
  exact spec_in_u16 a b c hx hr
theorem spec_in_i16' {w : World} {x dx : Addr} {b : Array UInt8} {t : Tok} {i : Int} {ti k1 k2 : Tok} {h1 h2 : Int} {rest : List (Addr × Obj)} {y z : Int} (h : At2 b i y z) (hx : x ≠ dx) (hr : ∀ p ∈ rest, p.1 ≠ dx) (hy : 0 ≤ y * 256 + z) (hy2 : y * 256 + z < 65536) :
    Spec w 134 8 96 [.ref x] (inLed x dx b t i ti k1 k2 h1 h2 rest) (fun v n' => ∃ t' ti', v = .int (if 32768 ≤ y * 256 + z then y * 256 + z - 65536 else y * 256 + z) t' ∧ inLed x dx b t (i + 2) ti' k1 k2 h1 h2 rest = n') := by
  obtain ⟨pre, post, a, b, c⟩ := h
  exact spec_in_i16 a b c hx hr hy hy2
def At4 (b : Array UInt8) (i : Int) (l : List Int) : Prop := ∃ pre post, KBw.bInts b = pre ++ l ++ post ∧ i = (pre.length : Nat) ∧ pre.length + l.length + post.length ≤ 900
theorem At4.two {b : Array UInt8} {i p q r s : Int} (h : At4 b i [p, q, r, s]) : At2 b i p q ∧ At2 b (i + 2) r s := by
  obtain ⟨pre, post, e, rfl, hz⟩ := h
  simp only [List.length_cons, List.length_nil] at hz
  refine ⟨⟨pre, r :: s :: post, by rw [e]; simp, rfl, by simp only [List.length_cons]; omega⟩, ⟨pre ++ [p, q], post, by rw [e]; simp, by simp, by simp; omega⟩⟩
local macro_rules | `(tactic| walk_at "mine spec") => `(tactic| first
  | (with_reducible show Spec _ 170 _ _ _ _ _); exact spec_in_new'
  | (with_reducible show Spec _ 127 _ _ _ _ _); exact spec_in_u16' (by assumption) (by assumption) (by assumption)
  | (with_reducible show Spec _ 134 _ _ _ _ _); exact spec_in_i16' (by assumption) (by assumption) (by assumption) (by omega) (by omega))
theorem sub4' {α : Type} (a b c : α) (r : List α) : ∀ p ∈ a :: r, p ∈ a :: b :: c :: r := fun p hp => by
  simp only [List.mem_cons] at hp ⊢
  rcases hp with h | h <;> simp [h]
theorem sub4'' {α : Type} (a b c d : α) (r : List α) : ∀ p ∈ a :: r, p ∈ a :: b :: c :: d :: r := fun p hp => by
  simp only [List.mem_cons] at hp ⊢
  rcases hp with h | h <;> simp [h]
theorem spec_read_pt {w : World} {news : List (Addr × Obj)} {b : Array UInt8} {t : Tok} {i : Int} {ti : Tok} {v : Int} (hc : At4 b i (Car.enc ⟨true, v⟩)) (h0 : 0 ≤ v) (h1 : v < 65536) :
    Spec w 288 20 200 [.bytes b t, .int i ti] news (fun r n' => ∃ a tw tv k, r = .ref a ∧ (∀ p ∈ news, p.1 ≠ a) ∧ (a, carO ⟨true, v⟩ tw tv k) :: news = n') := by
  have hA : At2 b i 0 2 := (At4.two hc).1
  have hB : At2 b (i + 2) (v % 65536 / 256) (v % 65536 % 256) := (At4.two hc).2
  have ev : v % 65536 / 256 * 256 + v % 65536 % 256 = v := by omega
  unfold Spec
  intro dp un gd cn cs a ccd cl outer A₀ base h₀ L m s mean mg mb Q E B F X N T hk hd hu hret
  walk_at "mine start"
  k_steps
  rename News h₀ L _ (_ :: _) => N8
  rw [ev] at N8
  exact hret _ _ _ _ ⟨_, _, _, _, rfl, fun p hp => Nat.ne_of_lt (allLt_mem (And.right (And.right (by assumption))) p hp), rfl⟩ (by assumption) (cb_drop N8 (sub4' _ _ _ _))
theorem spec_read_at {w : World} {news : List (Addr × Obj)} {b : Array UInt8} {t : Tok} {i : Int} {ti : Tok} {v : Int} (hc : At4 b i (Car.enc ⟨false, v⟩)) (h0 : -32768 ≤ v) (h1 : v ≤ 32767) :
    Spec w 288 20 200 [.bytes b t, .int i ti] news (fun r n' => ∃ a tw tv k, r = .ref a ∧ (∀ p ∈ news, p.1 ≠ a) ∧ (a, carO ⟨false, v⟩ tw tv k) :: news = n') := by
  have hA : At2 b i 0 1 := (At4.two hc).1
  have hB : At2 b (i + 2) (v % 65536 / 256) (v % 65536 % 256) := (At4.two hc).2
  have ev : (if 32768 ≤ v % 65536 / 256 * 256 + v % 65536 % 256 then v % 65536 / 256 * 256 + v % 65536 % 256 - 65536 else v % 65536 / 256 * 256 + v % 65536 % 256) = v := by split <;> omega
  unfold Spec
  intro dp un gd cn cs a ccd cl outer A₀ base h₀ L m s mean mg mb Q E B F X N T hk hd hu hret
  walk_at "mine start"
  k_steps
  rename News h₀ L _ (_ :: _) => N8
  rw [ev] at N8
  exact hret _ _ _ _ ⟨_, _, _, _, rfl, fun p hp => Nat.ne_of_lt (allLt_mem (And.right (And.right (by assumption))) p hp), rfl⟩ (by assumption) (cb_drop N8 (sub4' _ _ _ _))
theorem spec_read {w : World} {news : List (Addr × Obj)} {b : Array UInt8} {t : Tok} {i : Int} {ti : Tok} {c : Car} (hc : At4 b i c.enc) (hok : c.ok) :
    Spec w 288 20 200 [.bytes b t, .int i ti] news (fun r n' => ∃ a tw tv k, r = .ref a ∧ (∀ p ∈ news, p.1 ≠ a) ∧ (a, carO c tw tv k) :: news = n') := by
  obtain ⟨pt, v⟩ := c
  cases pt with
  | true => exact spec_read_pt hc hok.1 hok.2
  | false => exact spec_read_at hc hok.1 hok.2
end

section
def KeptOk (f : Int → Car) (mk : List (Addr × Obj)) (kvs : List (Int × Value)) : Prop := ∀ o v, valueAt kvs o = some v → o = 0 ∨ ∃ a tw tv k, v = .ref a ∧ (a, carO (f o) tw tv k) ∈ mk
theorem keptOk_one (f : Int → Car) (mk : List (Addr × Obj)) : KeptOk f mk [(0, .none)] := fun o v h => by
  by_cases e : o = 0
  · exact .inl e
  · exfalso
    have : (0 : Int) ≠ o := fun x => e x.symm
    simp [valueAt, this] at h
local macro_rules | `(tactic| walk_at "mine spec") => `(tactic| ((with_reducible show Spec _ 288 _ _ _ _ _); exact spec_read (by assumption) (by assumption)))
theorem valueAt_snoc {K : Type} [DecidableEq K] {kvs : List (K × Value)} {n o : K} {x : Value} : valueAt (kvs ++ [(n, x)]) o = (valueAt kvs o).or (if n = o then some x else none) := by
  unfold valueAt
  rw [List.find?_append]
  cases h : kvs.find? fun kv => decide (kv.1 = o) with
  | some v => rfl
  | none =>
    by_cases e : n = o <;> simp [e]
theorem news_rotk {h₀ h : Heap} {L : Addr} {a b c d : Addr × Obj} {r : List (Addr × Obj)} (N : News h₀ L h (a :: b :: c :: d :: r)) : News h₀ L h (b :: c :: d :: a :: r) := fun p hp => N p (by
  simp only [List.mem_cons] at hp ⊢
  rcases hp with h | h | h | h | h <;> simp [h])
theorem spec_each {w : World} {news : List (Addr × Obj)} {b : Array UInt8} {t : Tok} {i : Int} {ti : Tok} {l : Addr} {vs : List Value} {k : Nat} {offs : List Int} (f : Int → Car) (hl : (l, lobj vs k) ∈ news) (hv : IntsAre vs offs)
    (hf : ∀ o ∈ offs, o ≠ 0 ∧ At4 b (i + o) (f o).enc ∧ (f o).ok) (hn : offs.length ≤ 20) :
    Spec w 281 30 300 [.bytes b t, .int i ti, .ref l, .ref 288, .none] news (fun v n' => ∃ r ys, v = .ref r ∧ (∀ p ∈ news, p ∈ n') ∧ (r, LCg.lst ys) ∈ n' ∧ CarsAre n' ys (offs.map f)) := by
  unfold Spec
  intro dp un gd cn cs a ccd cl outer A₀ base h₀ L m s mean mg mb Q E B F X N T hk hd hu hret
  walk_at "mine start"
  rename_i hff g9 L9 h9 tk9 FG9 F9 B9 X9 T9 l9 oc dc N9
  have r1 : ∀ p ∈ news, p.1 ≠ L9 + 1 := fun p hp => Nat.ne_of_lt (Nat.lt_succ_of_lt (l9 p hp))
  k_steps
  rename_i iL hA od lo hd0 hf0 ap lb hB oc2 F8 N8 dc2
  have hd1 : od.IsDictOf (intKind PySem.Challenge.pw_pb0186_01 w) [(0, .none)] := hd0
  have hlv := iL.length
  refine withM F8 fun m0 hm0 => ?_
  have F7 := hm0 ▸ F8
  have ap2 : ∀ p ∈ news, p.1 ≠ h9.objs.size := fun p hp => ap p (.tail _ hp)
  have ap3 : L9 + 1 ≠ h9.objs.size := ap (L9 + 1, oc) (.head _)
  refine forA_list (vs := vs) (k := k) (x := Str.ofString "offset") (fun i' m' nx => ∃ p1 o kvs mk, m' = ovr1 (Str.ofString "offset") p1 m0 ∧ nx = (h9.objs.size, o) :: (L9 + 1, oc2) :: mk ∧ (∀ p ∈ news, p ∈ mk) ∧ (∀ p ∈ mk, p.1 ≠ h9.objs.size) ∧
    o.IsDictOf (intKind PySem.Challenge.pw_pb0186_01 w) kvs ∧ kvs.length ≤ i' + 1 ∧ KeptOk f mk kvs ∧ ∀ o ∈ offs.take i', (valueAt kvs o).isSome = true) rfl F7 N8 (.tail _ (.tail _ hl))
    ⟨_, od, _, news, ovr1_self _ _, rfl, fun _ h => h, ap2, hd1, by simp, keptOk_one f news, by simp⟩ ?_ ?_
  · intro i' v m₁ nx I it h tk hvi hJ off hl2 hcls F' N'
    obtain ⟨p1, o, kvs, mk, rfl, rfl, hsub, hap, hdo, hkl, hko, hall⟩ := hJ
    obtain ⟨n, tn, rfl, hni⟩ := IntsAre.at iL i' v hvi
    obtain ⟨hn0, hAt, hok⟩ := hf n (List.mem_of_getElem? hni)
    subst hm0
    have htake : offs.take (i' + 1) = offs.take i' ++ [n] := by rw [List.take_add_one, hni]; rfl
    have hlt : i' < offs.length := by
      rcases Nat.lt_or_ge i' offs.length with h | h
      · exact h
      · rw [List.getElem?_eq_none h] at hni; cases hni
    cases hq : valueAt kvs n with
    | some v =>
      k_steps
      rename Fr _ _ _ _ => F6
      rename News _ _ _ (_ :: _ :: _ :: _) => N6
      refine UnrEnd.intro F6 N6 _ (fun _ hp => hp) off ⟨.tail _ (.tail _ (hsub _ hl)), _, o, kvs, mk, ovr1_1, rfl, hsub, hap, hdo, by omega, hko, ?_⟩
      intro o' ho'
      rw [htake] at ho'
      rcases List.mem_append.mp ho' with ho' | ho'
      · exact hall o' ho'
      · rw [List.mem_singleton.mp ho', hq]; rfl
    | none =>
      k_steps
      rename ∀ p : Addr × Obj, p ∈ (I, it) :: (h9.objs.size, o) :: (L9 + 1, oc2) :: mk → p.1 ≠ _ => hfa
      have hsz : kvs.length ≤ sizeLine := by have hsL : (sizeLine : Nat) = 2 ^ 24 := rfl; omega
      refine set_at (knd := intKind _ _) (by assumption) (by assumption) (.tail (Ne.symm (hfa (h9.objs.size, o) (.tail _ (.head _)))) (.tail (Ne.symm (off (h9.objs.size, o) (.head _))) (.head (fun p hp => ?_)))) hdo (intKind_is _ _ _ _) hsz ?_
      · rcases List.mem_cons.mp hp with rfl | hp
        · exact ap3
        · exact hap p hp
      intro h6 o6 F6 N6 hd6
      rw [stored_new hq] at hd6
      k_steps
      refine UnrEnd.intro F6 (news_rotk N6) _ (fun _ hp => hp) (fun p hp => ?_) ⟨.tail _ (.tail _ (.tail _ (hsub _ hl))), _, o6, _, _, ovr1_1, rfl, fun p hp => .tail _ (hsub p hp), ?_, hd6, by simp; omega, ?_, ?_⟩
      · rcases List.mem_cons.mp hp with rfl | hp
        · exact off (h9.objs.size, o) (.head _)
        rcases List.mem_cons.mp hp with rfl | hp
        · exact off (L9 + 1, oc2) (.tail _ (.head _))
        rcases List.mem_cons.mp hp with rfl | hp
        · exact Ne.symm (hfa (I, it) (.head _))
        exact off p (.tail _ (.tail _ hp))
      · intro p hp
        rcases List.mem_cons.mp hp with rfl | hp
        · exact Ne.symm (hfa (h9.objs.size, o) (.tail _ (.head _)))
        · exact hap p hp
      · intro o' v' ho'
        rw [valueAt_snoc] at ho'
        cases hv' : valueAt kvs o' with
        | some v2 =>
          rw [hv'] at ho'
          cases ho'
          rcases hko o' v' hv' with e | ⟨a, tw, tv, k, e, hm⟩
          · exact .inl e
          · exact .inr ⟨a, tw, tv, k, e, .tail _ hm⟩
        | none =>
          rw [hv'] at ho'
          by_cases e : n = o'
          · subst e
            simp at ho'
            subst ho'
            exact .inr ⟨_, _, _, _, rfl, .head _⟩
          · simp [e] at ho'
      · intro o' ho'
        rw [valueAt_snoc]
        rw [htake] at ho'
        rcases List.mem_append.mp ho' with ho' | ho'
        · have := hall o' ho'
          cases hv' : valueAt kvs o' with
          | some v2 => rfl
          | none => rw [hv'] at this; cases this
        · rw [List.mem_singleton.mp ho', hq]; simp
  · intro m₁ nx h tk hJ F' N'
    obtain ⟨p1, o, kvs, mk, rfl, rfl, hsub, hap, hdo, hkl, hko, hall⟩ := hJ
    subst hm0
    rw [hlv, List.take_length] at hall
    k_steps
    refine Stop.go ?_
    refine comp_list (its := vs.toArray) (k := k) (by rfl) (by k_asm) (by k_asm) (.tail _ (.tail _ (hsub _ hl))) (by have hsL : (sizeLine : Nat) = 2 ^ 24 := rfl; simp; omega) ?_
    intro g8
    refine comp_inv (fun i' ys n' => n' = (h9.objs.size, o) :: (L9 + 1, oc2) :: mk ∧ CarsAre mk ys ((offs.take i').map f)) ?_ ?_ _ _ _ _ (Nat.zero_add _) ⟨rfl, .nil⟩
    · intro i' ys nx v I oI C oC D m₂ h tk E' hlt hJ hP hC hx' F' N' off ne
      obtain ⟨rfl, hI⟩ := hJ
      have hvi : vs[i']? = some v := by simpa using hP
      obtain ⟨n, tn, rfl, hni⟩ := IntsAre.at iL i' v hvi
      obtain ⟨hn0, hAt, hok⟩ := hf n (List.mem_of_getElem? hni)
      obtain ⟨v2, hv2⟩ := Option.isSome_iff_exists.mp (hall n (List.mem_of_getElem? hni))
      obtain ⟨a2, tw, tv, k2, rfl, hm2⟩ := (hko n v2 hv2).resolve_left hn0
      k_steps
      rename News _ _ _ (_ :: _ :: _ :: _ :: _) => N6
      refine LCg.CompEnd.intro (by assumption) N6 _ (fun _ hp => hp) off (.inr ⟨_, .tail _ (.tail _ (hsub _ hl)), rfl, _, rfl⟩) ⟨rfl, ?_⟩
      rw [List.take_add_one, hni, List.map_append]
      exact hI.snoc hm2
    · rintro ys nx ⟨rfl, hI⟩
      intro D h tk F' N' off
      have hI2 : CarsAre mk ys (offs.map f) := by simpa [hlv] using hI
      k_steps
      rename News h₀ L _ (_ :: _) => N6
      refine hret _ ((D, LCg.lst ys) :: mk) _ _ ⟨D, ys, rfl, fun p hp => .tail _ (hsub p hp), .head _, hI2.mono fun p hp => .tail _ hp⟩ (by assumption) (cb_drop N6 (fun p hp => ?_))
      rcases List.mem_cons.mp hp with rfl | hp
      · exact .head _
      · exact .tail _ (.tail _ (.tail _ hp))
end

section
abbrev tupN (vs : List Value) (k : Nat) : Obj := { cls := .type "tuple", data := .seq vs.toArray k }
def pairs (offs : List Int) : List (Int × Int) := offs.map fun o => (o / 256, o % 256)
theorem pairs_flat (offs : List Int) : flatP (pairs offs) = offs.flatMap wordB := by
  induction offs with
  | nil => rfl
  | cons o offs ih =>
    show flatP ((o / 256, o % 256) :: pairs offs) = _
    rw [flatP, List.flatMap_cons, List.flatMap_cons]
    exact congrArg _ ih
theorem pairs_val (offs : List Int) : (pairs offs).map valP = offs := by
  induction offs with
  | nil => rfl
  | cons o offs ih =>
    show valP (o / 256, o % 256) :: (pairs offs).map valP = _
    rw [ih]
    congr 1
    show o / 256 * 256 + o % 256 = o
    omega
noncomputable def decode (cs : List Car) (o : Int) : Car := ((uniq cs)[((o - (2 + 2 * (cs.length : Int))) / 4).toNat]?).getD (true, 0)
theorem decode_off (cs : List Car) {c : Car} (hc : c ∈ cs) : decode cs (offOf cs c) = c := by
  have hm := (uniq_mem cs c).mpr hc
  unfold decode offOf
  rw [show ((2 + 2 * (cs.length : Int) + 4 * (ix (uniq cs) c : Int) - (2 + 2 * (cs.length : Int))) / 4).toNat = ix (uniq cs) c by omega, ix_get hm]
  rfl
theorem decode_map (cs : List Car) : (cs.map (offOf cs)).map (decode cs) = cs := by
  rw [List.map_map]
  conv => rhs; rw [← List.map_id cs]
  exact List.map_congr_left fun c hc => decode_off cs hc
theorem tuple_K {prog : Program} {w : World} {A : Around} {E : Value → Shared → Prop} {s : Shared} {h₀ : Heap} {L : Addr} {m : Str → Option Value} {news : List (Addr × Obj)} {Q : Value → Shared → Prop} {l : Addr} {vs : List Value} {k : Nat} (F : Fr h₀ L s.heap m) (N : News h₀ L s.heap news) (hl : (l, lobj vs k) ∈ news) (hsz : vs.toArray.size ≤ sizeLine)
    (h : ∀ a h', Fr h₀ L h' m → News h₀ L h' ((a, tupN vs 0) :: news) → (∀ p ∈ news, p.1 < a) → Q (.ref a) { s with heap := h' }) : wpAny (model prog w) A (call (.type "tuple") [.ref l]) Q E s :=
  call_tuple_list (N.isList hl) (fun h' hk => h _ _ ((F.keeps hk).push _) (News.push (F.keeps hk) (N.grown hk) (tupN vs 0)) fun p hp => Heap.lt_size ((N.grown hk) p hp).1) hsz
local macro_rules | `(tactic| walk_at "mine spec") => `(tactic| first
  | (with_reducible show Spec _ 170 _ _ _ _ _); exact spec_in_new'
  | (with_reducible show Spec _ 127 _ _ _ _ _); exact spec_in_u16' (by assumption) (by assumption) (by assumption)
  | (with_reducible show Spec _ 160 _ _ _ _ _); exact spec_in_rows (by assumption) (by omega) (by omega) (by omega) (by assumption) (by assumption)
  | (with_reducible show Spec _ 281 _ _ _ _ _); exact spec_each _ (by k_mem) (by assumption) (by assumption) (by omega))
theorem spec_read_row {w : World} {news : List (Addr × Obj)} {b : Array UInt8} {t : Tok} {i : Int} {ti : Tok} {pre post : List Int} {cs : List Car} (hb : KBw.bInts b = pre ++ rowEnc cs ++ post) (hi : i = (pre.length : Nat)) (hok : ∀ c ∈ cs, c.ok) (hn : cs.length ≤ 20) (hz : pre.length + post.length ≤ 600) :
    Spec w 295 50 500 [.bytes b t, .int i ti] news (fun r n' => ∃ a ys k, r = .ref a ∧ (∀ p ∈ news, p ∈ n') ∧ (a, tupN ys k) ∈ n' ∧ CarsAre n' ys cs) := by
  have hul := uniq_len cs
  have hrl := rowEnc_len cs hok
  have hre := rowEnc_eq cs hok
  have hA : At2 b i (cs.length / 256) (cs.length % 256) := ⟨pre, (cs.map (offOf cs)).flatMap wordB ++ ((uniq cs).map Car.enc).flatten ++ post, by
    rw [hb, hre]; simp [wordB], hi, by simp only [List.length_append, flatW_len, encs_len, List.length_map]; omega⟩
  have hpl : (pairs (cs.map (offOf cs))).length = cs.length := by simp [pairs]
  have hB : KBw.bInts b = (pre ++ wordB cs.length) ++ flatP (pairs (cs.map (offOf cs))) ++ (((uniq cs).map Car.enc).flatten ++ post) := by
    rw [hb, hre, pairs_flat]; simp
  have hl1 : (pre ++ wordB cs.length).length = pre.length + 2 := by rw [List.length_append]; rfl
  have hl2 : (((uniq cs).map Car.enc).flatten ++ post).length = 4 * (uniq cs).length + post.length := by rw [List.length_append, encs_len]
  have hv := pairs_val (cs.map (offOf cs))
  have hf : ∀ o ∈ cs.map (offOf cs), o ≠ 0 ∧ At4 b (i + o) (decode cs o).enc ∧ (decode cs o).ok := fun o ho => by
    obtain ⟨c, hc, rfl⟩ := List.mem_map.mp ho
    rw [decode_off cs hc]
    obtain ⟨a, z, e, ha⟩ := rowEnc_at cs hok hc
    have hle : (a ++ c.enc ++ z).length = (rowEnc cs).length := by rw [e]
    simp only [List.length_append] at hle
    refine ⟨by unfold offOf; omega, ⟨pre ++ a, z ++ post, by rw [hb, e]; simp, by rw [hi, ha]; simp, ?_⟩, hok c hc⟩
    simp only [List.length_append]
    omega
  have hf' : ∀ o ∈ (pairs (cs.map (offOf cs))).map valP, o ≠ 0 ∧ At4 b (i + o) (decode cs o).enc ∧ (decode cs o).ok := by rw [hv]; exact hf
  have hol : ((pairs (cs.map (offOf cs))).map valP).length = cs.length := by rw [hv]; exact List.length_map ..
  have h0 : ¬ (0 : Int) ∈ (pairs (cs.map (offOf cs))).map valP := fun h => (hf' 0 h).1 rfl
  have hany : (((pairs (cs.map (offOf cs))).map valP).any fun x => x == 0) = false := by
    rw [List.any_eq_false]
    intro x hx h
    exact (hf' x hx).1 (by simpa using h)
  unfold Spec
  intro dp un gd cn cs' a ccd cl outer A₀ base h₀ L m s mean mg mb Q E B F X N T hk hd hu hret
  walk_at "mine start"
  k_steps
  rename CarsAre _ _ _ => hcars
  rename (∀ p ∈ _, p ∈ _) => hsub
  rename (_, LCg.lst _) ∈ _ => hm
  rw [hv, decode_map] at hcars
  have hcl := hcars.len
  refine tuple_K (by assumption) (by assumption) hm (by have hsL : (sizeLine : Nat) = 2 ^ 24 := rfl; rw [List.size_toArray]; omega) ?_
  intro a9 h9 F9 N9 l9
  k_steps
  rename News h₀ L _ (_ :: _) => N8
  refine hret _ _ _ _ ⟨a9, _, 0, rfl, fun p hp => .tail _ (hsub p (.tail _ (.tail _ (.tail _ hp)))), .head _, hcars.mono fun p hp => .tail _ hp⟩ (by assumption) N8
end

section
open PySem.Calls PySem.Spec
open SeqAt
def carOfObj (o : Obj) : Car := match o.data with
  | .seq its _ => (match its.toList with
    | .str w _ :: .int v _ :: _ => (w == Str.ofString "point", v)
    | _ => (false, 0))
  | _ => (false, 0)
def carOf (h : Heap) : Value → Car
  | .ref b => match h.get? b with
    | some o => carOfObj o
    | none => (false, 0)
  | _ => (false, 0)
theorem carOfObj_eq (c : Car) (tw tv : Tok) (k : Nat) : carOfObj (carO c tw tv k) = c := by
  obtain ⟨pt, v⟩ := c
  cases pt
  · show ((Str.ofString "at" == Str.ofString "point"), v) = (false, v)
    rfl
  · show ((Str.ofString "point" == Str.ofString "point"), v) = (true, v)
    simp
section
variable {A : Around} {s : Shared} {h₀ : Heap} {L : Addr} {m : Str → Option Value} {news : List (Addr × Obj)}
theorem carOf_ref (N : News h₀ L s.heap news) {a : Addr} {c : Car} {tw tv : Tok} {k : Nat} (h : (a, carO c tw tv k) ∈ news) : carOf s.heap (.ref a) = c := by
  have z : s.heap.get? a = some (carO c tw tv k) := (N _ h).1
  show (match s.heap.get? a with | some o => carOfObj o | none => (false, 0)) = c
  rw [z]
  exact carOfObj_eq c tw tv k
theorem carOf_all (N : News h₀ L s.heap news) {vs : List Value} {cs : List Car} (h : CarsAre news vs cs) : vs.map (carOf s.heap) = cs := by
  induction h with
  | nil => rfl
  | cons a c tw tv k hm _ ih => rw [List.map_cons, carOf_ref N hm, ih]
theorem car_eq (N : News h₀ L s.heap news) {a b : Addr} {c d : Car} {tw tv uw uv : Tok} {k j : Nat} (ha : (a, carO c tw tv k) ∈ news) (hb : (b, carO d uw uv j) ∈ news) (hu : A.units < cLine) : EqAt A s (.ref a) (.ref b) (decide (c = d)) := by
  by_cases e : a = b
  · subst e
    have : c = d := by rw [← carOf_ref N ha, carOf_ref N hb]
    rw [decide_eq_true this]
    exact EqAt.same _
  · have h1 : s.heap.IsTuple a #[.str c.word tw, .int c.v tv] := ⟨_, (N _ ha).1, rfl, _, rfl⟩
    have h2 : s.heap.IsTuple b #[.str d.word uw, .int d.v uv] := ⟨_, (N _ hb).1, rfl, _, rfl⟩
    have z : EqAt A s (.ref a) (.ref b) _ := EqAt.of_refs e (RcAt.tuples (e := fun i => if i = 0 then c.word == d.word else c.v == d.v) h1 h2 hu (fun i i1 i2 => by
      match i, i1, i2 with
      | 0, _, _ => exact EqAt.str_str _ _ _ _
      | 1, _, _ => exact EqAt.int_int _ _ _ _))
    have q : ((List.range (min (#[Value.str c.word tw, .int c.v tv]).size (#[Value.str d.word uw, .int d.v uv]).size)).all (fun i => if i = 0 then c.word == d.word else c.v == d.v) && (#[Value.str c.word tw, .int c.v tv]).size == (#[Value.str d.word uw, .int d.v uv]).size) = decide (c = d) := by
      show ((List.range 2).all (fun i => if i = 0 then c.word == d.word else c.v == d.v) && true) = _
      obtain ⟨p, v⟩ := c
      obtain ⟨q, u⟩ := d
      have hw : ((Str.ofString "at") == (Str.ofString "point")) = false := rfl
      have hw2 : ((Str.ofString "point") == (Str.ofString "at")) = false := rfl
      cases p <;> cases q <;> simp [List.range, List.range.loop, Car.word, Car.pt, Car.v, hw, hw2, Bool.beq_eq_decide_eq]
    rw [q] at z
    exact z
end
section
variable {prog : Program} {w : World} {A : Around} {E : Value → Shared → Prop} {s : Shared} {h₀ : Heap} {L : Addr} {m : Str → Option Value} {news : List (Addr × Obj)}
theorem cars_he (N : News h₀ L s.heap news) {vs : List Value} {cs : List Car} (hv : CarsAre news vs cs) {a : Addr} {c : Car} {tw tv : Tok} {k : Nat} (ha : (a, carO c tw tv k) ∈ news) (hu : A.units + 2 < cLine) :
    ∀ y, y ∈ vs.toArray → EqAt A.in1 s y (.ref a) (decide (carOf s.heap y = c)) := fun y hy => by
  obtain ⟨i, hi⟩ := List.getElem?_of_mem (by simpa using hy : y ∈ vs)
  obtain ⟨b, d, uw, uv, j, rfl, hb, _⟩ := hv.at hi
  rw [carOf_ref N hb]
  exact car_eq N hb ha (by rw [units_in1]; omega)
theorem notin_cars {Q : Value → Shared → Prop} (N : News h₀ L s.heap news) {l : Addr} {vs : List Value} {kl : Nat} {cs : List Car} (hl : (l, lobj vs kl) ∈ news) (hv : CarsAre news vs cs) {a : Addr} {c : Car} {tw tv : Tok} {k : Nat} (ha : (a, carO c tw tv k) ∈ news) (hu : A.units + 2 < cLine)
    (h : Q (.bool (!decide (c ∈ cs))) s) : wpAny (model prog w) A (compareOp .NotIn (.ref a) (.ref l)) Q E s := by
  refine notIn_listAt (fun y => decide (carOf s.heap y = c)) (News.isList N hl) (cars_he N hv ha hu) ?_
  have e : (vs.toArray.any fun y => decide (carOf s.heap y = c)) = decide (c ∈ cs) := by
    rw [← carOf_all N hv, Bool.eq_iff_iff]
    simp
  rw [e]
  exact h
theorem ix_hit (h : Heap) : ∀ (vs : List Value) (c : Car) (hm : c ∈ vs.map (carOf h)), ∃ hj : ix (vs.map (carOf h)) c < vs.length, carOf h vs[ix (vs.map (carOf h)) c] = c
  | v :: vs, c, hm => by
    by_cases e : carOf h v = c
    · have e2 : ix ((v :: vs).map (carOf h)) c = 0 := by rw [List.map_cons, ix, if_pos e]
      simp only [e2]
      exact ⟨Nat.succ_pos _, e⟩
    · have e2 : ix ((v :: vs).map (carOf h)) c = ix (vs.map (carOf h)) c + 1 := by rw [List.map_cons, ix_ne e]
      obtain ⟨hj, hc⟩ := ix_hit h vs c ((List.mem_cons.mp hm).resolve_left fun q => e q.symm)
      simp only [e2]
      exact ⟨Nat.succ_lt_succ hj, by simpa using hc⟩
theorem ix_miss (h : Heap) : ∀ (vs : List Value) (c : Car) (i : Nat) (hi : i < vs.length), i < ix (vs.map (carOf h)) c → ¬ carOf h vs[i] = c
  | v :: vs, c, i, hi, hlt => by
    by_cases e : carOf h v = c
    · rw [List.map_cons, ix, if_pos e] at hlt
      exact absurd hlt (Nat.not_lt_zero _)
    · rw [List.map_cons, ix_ne e] at hlt
      cases i with
      | zero => exact e
      | succ i => simpa using ix_miss h vs c i (by simpa using hi) (by omega)
theorem index_cars {Q : Value → Shared → Prop} (N : News h₀ L s.heap news) {l : Addr} {vs : List Value} {kl : Nat} {cs : List Car} (hl : (l, lobj vs kl) ∈ news) (hv : CarsAre news vs cs) {a : Addr} {c : Car} {tw tv : Tok} {k : Nat} (ha : (a, carO c tw tv k) ∈ news) (hu : A.units + 4 < cLine) (hm : c ∈ cs) (hn : cs.length ≤ 1000)
    (h : Q (.int (ix cs c : Nat) s.toks) { s with toks := s.toks + 1 }) : wpAny (model prog w) A (call (.builtin "list.index") [.ref l, .ref a]) Q E s := by
  have hall := carOf_all N hv
  rw [← hall] at hm
  obtain ⟨hj, hc⟩ := ix_hit s.heap vs c hm
  have hlen : vs.length = cs.length := hv.len
  rw [← hall] at h
  refine call_meets PySem.F.slot_list_index ⟨_, (N _ hl).1, rfl⟩ PySem.F.entry_list_index (PySem.F.args_list_index_2 _ _)
    (list_indexAt l vs.toArray kl none #[] (.ref a) (fun y => decide (carOf s.heap y = c)) (ix (vs.map (carOf s.heap)) c) (by simpa using hj) (by omega) (by simpa using hc) (fun i hi hlt => ?_)) ⟨(N _ hl).1, fun y hy => ?_, h⟩
  · simpa using ix_miss s.heap vs c i (by simpa using hi) hlt
  · exact cars_he N hv ha (by omega) y hy
theorem rows_he (N : News h₀ L s.heap news) {vs ws : List Value} {cs : List Car} (hv : CarsAre news vs cs) (hw : CarsAre news ws cs) (hu : A.units + 1 < cLine) :
    ∀ j (h1 : j < vs.toArray.size) (h2 : j < ws.toArray.size), EqAt A.in1 s vs.toArray[j] ws.toArray[j] true := fun j h1 h2 => by
  have g1 : vs[j]? = some vs.toArray[j] := by simp at h1; simp [h1]
  have g2 : ws[j]? = some ws.toArray[j] := by simp at h2; simp [h2]
  obtain ⟨a, c, tw, tv, k, e1, ha, c1⟩ := hv.at g1
  obtain ⟨b, d, uw, uv, k2, e2, hb, c2⟩ := hw.at g2
  rw [e1, e2]
  have : c = d := by rw [c1] at c2; exact Option.some.inj c2
  have z := car_eq (A := A.in1) N ha hb (by rw [units_in1]; omega)
  rw [decide_eq_true this] at z
  exact z
theorem rows_all {vs ws : List Value} {cs : List Car} (hv : CarsAre news vs cs) (hw : CarsAre news ws cs) : ((List.range (min vs.toArray.size ws.toArray.size)).all (fun _ => true) && vs.toArray.size == ws.toArray.size) = true := by
  have e1 := hv.len
  have e2 := hw.len
  simp [e1, e2]
theorem eq_rows {Q : Value → Shared → Prop} (N : News h₀ L s.heap news) {a b : Addr} {vs ws : List Value} {k j : Nat} {cs : List Car} (ha : (a, tupN vs k) ∈ news) (hb : (b, tupN ws j) ∈ news) (hv : CarsAre news vs cs) (hw : CarsAre news ws cs) (hu : A.units + 2 < cLine)
    (h : Q (.bool true) s) : wpAny (model prog w) A (compareOp .Eq (.ref a) (.ref b)) Q E s := by
  refine eq_tupleAt ⟨_, (N _ ha).1, rfl, _, rfl⟩ ⟨_, (N _ hb).1, rfl, _, rfl⟩ (by omega) (rows_he N hv hw (by omega)) ?_
  rw [rows_all hv hw]
  exact h
theorem ne_rows {Q : Value → Shared → Prop} (N : News h₀ L s.heap news) {a b : Addr} {vs ws : List Value} {k j : Nat} {cs : List Car} (ha : (a, tupN vs k) ∈ news) (hb : (b, tupN ws j) ∈ news) (hv : CarsAre news vs cs) (hw : CarsAre news ws cs) (hu : A.units + 2 < cLine)
    (h : Q (.bool false) s) : wpAny (model prog w) A (compareOp .NotEq (.ref a) (.ref b)) Q E s := by
  refine RcNeAt.tuples (e := fun _ => true) ⟨_, (N _ ha).1, rfl, _, rfl⟩ ⟨_, (N _ hb).1, rfl, _, rfl⟩ (by omega) (rows_he N hv hw (by omega)) prog w E Q ?_
  rw [rows_all hv hw]
  exact h
end
end

section
def Bnd (n lim : Int) : Prop := 0 ≤ n ∧ n < lim
theorem spec_draw {w : World} {rest : List (Addr × Obj)} {tp cl : Addr} {cvs : List Value} {cells : List Int} {k k2 : Nat} {pos lim : Int} {t tl : Tok} (hc : (cl, lobj cvs k2) ∈ rest) (hv : IntsAre cvs cells) (h0 : 0 < cells.length) (hn : cells.length ≤ 40) (hp0 : 0 ≤ pos) (hp1 : pos ≤ 1000) (hl0 : 0 < lim) (hl1 : lim ≤ 65536)
    (hr : ∀ p ∈ rest, p.1 ≠ tp) :
    Spec w 314 4 48 [.ref tp, .int lim tl] ((tp, W.listOf #[.ref cl, .int pos t] k) :: rest) (fun v n' => ∃ n t1 t2, v = .int n t1 ∧ Bnd n lim ∧ (tp, W.listOf #[.ref cl, .int (pos + 1) t2] k) :: rest = n') := by
  have hlv := hv.length
  have hfit : (cvs.toArray.size : Int) < 2 ^ 63 := by simp; omega
  have hs : ((cvs.toArray.size : Nat) : Int) = (cells.length : Int) := by simp [hlv]
  have hs1 : 0 < ((cvs.toArray.size : Nat) : Int) := by omega
  have hs2 : ((cvs.toArray.size : Nat) : Int) ≠ 0 := by omega
  unfold Spec
  intro dp un gd cn cs a ccd cl' outer A₀ base h₀ L m s mean mg mb Q E B F X N T hk hd hu hret
  walk_at "mine start"
  k_steps
  exact hret _ _ _ _ ⟨_, _, _, rfl, ⟨Int.fmod_nonneg_of_pos _ hl0, Int.fmod_lt_of_pos _ hl0⟩, rfl⟩ (by assumption) (by assumption)

def ByAt (b : Array UInt8) (i x : Int) : Prop := 0 ≤ i ∧ i < ((KBw.bInts b).length : Int) ∧ (KBw.bInts b).length ≤ 2000 ∧ (KBw.bInts b).getD i.toNat 0 = x
theorem At2.one {b : Array UInt8} {i y z : Int} (h : At2 b i y z) : ByAt b i y ∧ ByAt b (i + 1) z := by
  obtain ⟨pre, post, e, rfl, hz⟩ := h
  have e2 : KBw.bInts b = (pre ++ [y]) ++ z :: post := by rw [e]; simp
  refine ⟨⟨by omega, by rw [e]; simp; omega, by rw [e]; simp; omega, ?_⟩, ⟨by omega, by rw [e]; simp; omega, by rw [e]; simp; omega, ?_⟩⟩
  · rw [e, Int.toNat_natCast, List.getD_eq_getElem?_getD, List.getElem?_append_right (Nat.le_refl _)]; simp
  · rw [e2, show ((pre.length : Int) + 1).toNat = (pre ++ [y]).length by simp, List.getD_eq_getElem?_getD, List.getElem?_append_right (Nat.le_refl _)]; simp
theorem item_by {prog : Program} {w : World} {A : Around} {E : Value → Shared → Prop} {s : Shared} {b : Array UInt8} {t ui : Tok} {i x : Int} {value slice : Expr} {Q : Value → Shared → Prop} (h : ByAt b i x)
    (hQ : ∀ t' k, Q (.int x t') { s with toks := k })
    (hs : subscripted slice false (.bytes b t) (.int i ui) = operate [.bytes b t, .int i ui] (getItem (.bytes b t) (.int i ui)) := by with_unfolding_all rfl) (ht : ∀ r, letTemporaryGo value (.bytes b t) r = pure () := by intro _; with_unfolding_all rfl) :
    wpAny (model prog w) A (subscriptTail value slice (.bytes b t) (.int i ui)) Q E s := by
  obtain ⟨h0, h1, h2, rfl⟩ := h
  exact KBw.item_K rfl (by omega) h0 h1 (fun t' k _ _ => hQ t' k) hs ht
local macro_rules | `(tactic| walk_at "subscriptTail") => `(tactic| (k_here; (with_reducible show wpAny _ _ (subscriptTail _ _ (Value.bytes _ _) (Value.int _ _)) _ _ _); refine item_by (by assumption) ?_; intro t9' k9'))
theorem spec_law_number {w : World} {news : List (Addr × Obj)} {b : Array UInt8} {t : Tok} {i : Int} {ti : Tok} {y z : Int} (h : At2 b i y z) :
    Spec w 329 4 48 [.bytes b t, .int i ti] news (fun v n' => ∃ t', v = .int (256 * y + z) t' ∧ news = n') := by
  obtain ⟨hy, hz⟩ := h.one
  unfold Spec
  intro dp un gd cn cs a ccd cl' outer A₀ base h₀ L m s mean mg mb Q E B F X N T hk hd hu hret
  walk_at "mine start"
  k_steps
  exact hret _ _ _ _ ⟨_, rfl, rfl⟩ (by assumption) (by assumption)
end

section
local macro_rules | `(tactic| walk_at "mine spec") => `(tactic| ((with_reducible show Spec _ 314 _ _ _ _ _); exact spec_draw (by k_mem) (by assumption) (by assumption) (by assumption) (by omega) (by omega) (by omega) (by omega) (by assumption)))
theorem worth_at {w : World} {A : Around} {E : Value → Shared → Prop} {s : Shared} {h₀ : Heap} {L : Addr} {m : Str → Option Value} {n : Int} {tn : Tok} {value slice : Expr} {Q : Value → Shared → Prop} (F : Fr h₀ L s.heap m) (X : (hd.heap_39 w.params).In h₀) (hb : Bnd n 6)
    (hQ : ∀ x t, -32768 ≤ x ∧ x ≤ 32767 → Q (.int x t) s)
    (hs : subscripted slice false (.ref 315) (.int n tn) = operate [.ref 315, .int n tn] (getItem (.ref 315) (.int n tn)) := by with_unfolding_all rfl) :
    wpAny (model PySem.Challenge.pw_pb0186_01 w) A (subscriptTail value slice (.ref 315) (.int n tn)) Q E s := by
  walk_at "mine fill"
  obtain ⟨h0, h1⟩ := hb
  have hc : n = 0 ∨ n = 1 ∨ n = 2 ∨ n = 3 ∨ n = 4 ∨ n = 5 := by omega
  rcases hc with rfl | rfl | rfl | rfl | rfl | rfl <;>
  (k_dflt (refine' topTup_K ?F ?X ?l ?a ?b ?c ?d ?_ hs; (case F => k_asm); (case X => k_asm); (case l => k_is); (case a => decide); (case b => decide); (case c => rfl); (case d => rfl))) <;>
  exact hQ _ _ (by decide)

local macro_rules | `(tactic| walk_at "subscriptTail") => `(tactic| (k_here; (with_reducible show wpAny _ _ (subscriptTail _ _ (Value.ref 315) (Value.int _ _)) _ _ _); k_dflt (refine worth_at (by k_asm) (by k_asm) (by assumption) ?_); intro x9' t9' hx9'; obtain ⟨_, _⟩ := hx9'))
theorem execsA_stop {M : Model} {A : Around} {E : Value → Shared → Prop} {s : Shared} {env : Env} {st : Stmt} {rest : List Stmt} {Q : Flow → Shared → Prop}
    (h : wpAny M A (exec st env) (fun f s' => match f with | .next => Stop (wpAny M A (execs rest env) Q E s') | f => Q f s') E s) : wpAny M A (execs (st :: rest) env) Q E s := fun Γ p hΓ => by
  rw [execs_cons, Sem.wp_bind']
  refine Sem.wp_mono M Γ _ (fun f p' s' h' => ?_) (fun _ _ _ h' => h') _ _ (h Γ p hΓ)
  cases f <;> first | exact h' Γ p' hΓ | exact h'
theorem stopIter {M : Model} {A : Around} {E E' : Value → Shared → Prop} {s : Shared} {env : Env} {e : PySem.Expr} {P : Value → Shared → Prop} (h : wpAny M A (eval e env) (fun x s₁ => Stop (wpAny M A (pyIter x) P E' s₁)) E s) : wpAny M A (eval e env) (fun x s₁ => wpAny M A (pyIter x) P E' s₁) E s := h
theorem news_swap {h₀ h : Heap} {L : Addr} {a b : Addr × Obj} {r : List (Addr × Obj)} (N : News h₀ L h (a :: b :: r)) : News h₀ L h (b :: a :: r) := fun p hp => N p (by
  simp only [List.mem_cons] at hp ⊢
  rcases hp with h | h | h <;> simp [h])
theorem CarsAre.drop {nw : List (Addr × Obj)} : ∀ {vs : List Value} {cs : List Car}, CarsAre nw vs cs → ∀ k : Nat, CarsAre nw (vs.drop k) (cs.drop k)
  | _, _, h, 0 => h
  | _, _, .nil, _ + 1 => .nil
  | _, _, .cons _ _ _ _ _ _ h, k + 1 => h.drop k
theorem news_p4 {h₀ h : Heap} {L : Addr} {a b c d : Addr × Obj} {r : List (Addr × Obj)} (N : News h₀ L h (a :: b :: c :: d :: r)) : News h₀ L h (c :: b :: d :: a :: r) := fun p hp => N p (by
  simp only [List.mem_cons] at hp ⊢
  rcases hp with h | h | h | h | h <;> simp [h])
theorem news_d3 {h₀ h : Heap} {L : Addr} {a b c : Addr × Obj} {r : List (Addr × Obj)} (N : News h₀ L h (a :: b :: c :: r)) : News h₀ L h (b :: a :: r) := fun p hp => N p (by
  simp only [List.mem_cons] at hp ⊢
  rcases hp with h | h | h <;> simp [h])
theorem row_turn {h₀ : Heap} {L I tp ro da : Addr} {it : Obj} {s₁ : Shared} {h' : Heap} {tk : Nat} {v : Value} {p1 : Option Value} {m : Str → Option Value} {x : Str} {rest mk : List (Addr × Obj)} {cl : Addr} {t' tw tv : Tok} {kk k3 kt i : Nat} {rvs : List Value} {cs : List Car} {c : Car} {g : Nat → Int}
    (F : Fr h₀ L h' (fun y => if y = x then some v else ovr1 x p1 m y))
    (N : News h₀ L h' ((I, it) :: (tp, W.listOf #[.ref cl, .int (g (i + 1)) t'] kk) :: (ro, lobj (rvs ++ [.ref da]) (k3 + 1)) :: (da, carO c tw tv kt) :: mk))
    {o1 o2 : Obj} (off : ∀ p ∈ (tp, o1) :: (ro, o2) :: mk, p.1 ≠ I) (d1 : da ≠ tp) (d2 : da ≠ I) (d3 : da ≠ ro)
    (hsub : ∀ p ∈ rest, p ∈ mk) (hap : ∀ p ∈ mk, p.1 ≠ tp ∧ p.1 ≠ ro) (hcar : CarsAre mk rvs cs) (hok : ∀ c ∈ cs, c.ok) (hlen : cs.length = i) (hc : c.ok) :
    UnrEnd h₀ L s₁ I it (fun m' nx => ∃ p1 kk t' rvs k3 mk cs, m' = ovr1 x p1 m ∧ nx = (tp, W.listOf #[.ref cl, .int (g (i + 1)) t'] kk) :: (ro, lobj rvs k3) :: mk ∧ (∀ p ∈ rest, p ∈ mk) ∧ (∀ p ∈ mk, p.1 ≠ tp ∧ p.1 ≠ ro) ∧
      CarsAre mk rvs cs ∧ (∀ c ∈ cs, c.ok) ∧ cs.length = i + 1) { s₁ with heap := h', toks := tk } := by
  refine UnrEnd.intro F N _ (fun _ hp => hp) (fun p hp => ?_) ⟨_, kk, t', rvs ++ [.ref da], k3 + 1, (da, carO c tw tv kt) :: mk, cs ++ [c], ovr1_1, rfl, fun p hp => .tail _ (hsub p hp), fun p hp => ?_, (hcar.mono fun p hp => .tail _ hp).snoc (.head _), fun c' hc' => ?_, by rw [List.length_append, hlen]; rfl⟩
  · rcases List.mem_cons.mp hp with rfl | hp
    · exact off (tp, o1) (.head _)
    rcases List.mem_cons.mp hp with rfl | hp
    · exact off (ro, o2) (.tail _ (.head _))
    rcases List.mem_cons.mp hp with rfl | hp
    · exact d2
    exact off p (.tail _ (.tail _ hp))
  · rcases List.mem_cons.mp hp with rfl | hp
    · exact ⟨d1, d3⟩
    · exact hap p hp
  · rcases List.mem_append.mp hc' with hc' | hc'
    · exact hok c' hc'
    · rw [List.mem_singleton.mp hc']; exact hc
theorem spec_law_row {w : World} {rest : List (Addr × Obj)} {tp cl : Addr} {cvs : List Value} {cells : List Int} {k k2 : Nat} {pos : Int} {t : Tok} (hc : (cl, lobj cvs k2) ∈ rest) (hv : IntsAre cvs cells) (h0 : 0 < cells.length) (hn : cells.length ≤ 40) (hp0 : 0 ≤ pos) (hp1 : pos ≤ 100)
    (hr : ∀ p ∈ rest, p.1 ≠ tp) :
    Spec w 322 20 200 [.ref tp] ((tp, W.listOf #[.ref cl, .int pos t] k) :: rest) (fun v n' => ∃ ro mk rvs cs kk k3 pos' t', v = .ref ro ∧ (0 ≤ pos' ∧ pos' ≤ 200) ∧ (∀ p ∈ rest, p ∈ mk) ∧ (∀ p ∈ mk, p.1 ≠ tp ∧ p.1 ≠ ro) ∧ CarsAre mk rvs cs ∧ (∀ c ∈ cs, c.ok) ∧ cs.length ≤ 6 ∧ (tp, W.listOf #[.ref cl, .int pos' t'] kk) :: (ro, lobj rvs k3) :: mk = n') := by
  unfold Spec
  intro dp un gd cn cs a ccd cl' outer A₀ base h₀ L m s mean mg mb Q E B F X N T hk hd hu hret
  walk_at "mine start"
  refine execsA_stop ?_
  k_steps
  refine Stop.go ?_
  rename_i hff g9 L9 h9 FG9 B9 X9 T9 ro hA la hB F0 N0
  have la1 : tp < ro := la.1
  have lr : ∀ p ∈ rest, p.1 ≠ ro := fun p hp => Nat.ne_of_lt (allLt_mem la.2 p hp)
  have N1 := news_swap N0
  have hr2 : ∀ p ∈ (ro, W.listOf #[] 0) :: rest, p.1 ≠ tp := fun p hp => by
    rcases List.mem_cons.mp hp with rfl | hp
    · exact Nat.ne_of_gt la1
    · exact hr p hp
  clear N0
  refine execsA_stop ?_
  k_dflt (with_unfolding_all refine For_invVF F0 rfl rfl (stopIter ?_))
  k_steps
  rename_i hq tk9 Fq wn tw t2 hbnd Nq hC tkC tr ur vr hR F8 N8 hkk
  refine Stop.go ?_
  refine withM F8 fun m0 hm0 => ?_
  have F7 := hm0 ▸ F8
  obtain ⟨w0, w1⟩ := hbnd
  refine forA_range (n := (1 + wn).toNat) (x := Str.ofString "k") (fun i m' nx => ∃ p1 kk t' rvs k3 mk cs, m' = ovr1 (Str.ofString "k") p1 m0 ∧ nx = (tp, W.listOf #[.ref cl, .int (pos + 1 + 2 * (i : Int)) t'] kk) :: (ro, lobj rvs k3) :: mk ∧ (∀ p ∈ rest, p ∈ mk) ∧ (∀ p ∈ mk, p.1 ≠ tp ∧ p.1 ≠ ro) ∧
    CarsAre mk rvs cs ∧ (∀ c ∈ cs, c.ok) ∧ cs.length = i) rfl F7 N8 hR (by omega) (by omega)
    ⟨_, k, t2, [], 0, rest, [], ovr1_self _ _, by rw [show pos + 1 + 2 * ((0 : Nat) : Int) = pos + 1 by omega], fun _ h => h, fun p hp => ⟨hr p hp, lr p hp⟩, .nil, by simp, rfl⟩ ?_ ?_
  · intro i m₁ nx I it h tk ti hi hJ off F' N'
    obtain ⟨p1, kk, t', rvs, k3, mk, cs, rfl, rfl, hsub, hap, hcar, hok, hlen⟩ := hJ
    subst hm0
    have N2 := news_swap N'
    have i1 := off _ (.head _)
    have i2 := off _ (.tail _ (.head _))
    replace i1 := neN i1
    replace i2 := neN i2
    have hr3 : ∀ p ∈ (I, it) :: (ro, lobj rvs k3) :: mk, p.1 ≠ tp := fun p hp => by
      rcases List.mem_cons.mp hp with rfl | hp
      · exact Ne.symm i1
      rcases List.mem_cons.mp hp with rfl | hp
      · exact Nat.ne_of_gt la1
      exact (hap p hp).1
    have hmr : ∀ p ∈ mk, p.1 ≠ ro := fun p hp => (hap p hp).2
    have hc3 : (cl, lobj cvs k2) ∈ mk := hsub _ hc
    have hrl := hcar.len
    have hsz : rvs.toArray.size ≤ sizeLine := by have hsL : (sizeLine : Nat) = 2 ^ 24 := rfl; rw [List.size_toArray]; omega
    k_lt2 la1
    clear N' N8 F8 N1 F0
    k_steps
    · rename_i hA1 tk1 n1 u1 v1 b1 z1 hA2 tk2 n2 u2 v2 b2 xw xt xlo xhi da hD ld hE F6 N6
      rw [lobj_push, show pos + 1 + 2 * (i : Int) + 1 + 1 = pos + 1 + 2 * ((i + 1 : Nat) : Int) by omega] at N6
      exact row_turn (g := fun j => pos + 1 + 2 * (j : Int)) F6 (news_p4 N6) off (Nat.ne_of_gt ld.1) (Nat.ne_of_gt ld.2.1) (Nat.ne_of_gt ld.2.2.1) hsub hap hcar hok hlen (c := (false, xw)) ⟨xlo, xhi⟩
    · rename_i hA1 tk1 n1 u1 v1 b1 z1 hA2 tk2 n2 u2 v2 b2 xw xt xlo xhi uu tkk da hD ld hE F6 N6
      rw [lobj_push, show pos + 1 + 2 * (i : Int) + 1 + 1 = pos + 1 + 2 * ((i + 1 : Nat) : Int) by omega] at N6
      exact row_turn (g := fun j => pos + 1 + 2 * (j : Int)) F6 (news_p4 N6) off (Nat.ne_of_gt ld.1) (Nat.ne_of_gt ld.2.1) (Nat.ne_of_gt ld.2.2.1) hsub hap hcar hok hlen (c := (true, ((if xw < 0 then -xw else xw) * 2).fmod 65536)) ⟨Int.fmod_nonneg_of_pos _ (by decide), Int.fmod_lt_of_pos _ (by decide)⟩
  · intro m₁ nx h tk hJ F' N'
    obtain ⟨p1, kk, t', rvs, k3, mk, cs, rfl, rfl, hsub, hap, hcar, hok, hlen⟩ := hJ
    subst hm0
    refine Stop.go ?_
    k_steps
    have hrl := hcar.len
    have hsz : rvs.toArray.size ≤ sizeLine := by have hsL : (sizeLine : Nat) = 2 ^ 24 := rfl; rw [List.size_toArray]; omega
    have hlt : ∀ p ∈ (tp, W.listOf #[.ref cl, .int (pos + 1 + 2 * (((1 + wn).toNat : Nat) : Int)) t'] kk) :: (ro, lobj rvs k3) :: mk, p.1 < h.objs.size := fun p hp => Heap.lt_size (N' p hp).1
    refine slice_list (s := ⟨h, _, _, _, _⟩) F' N' (N'.isList (.tail _ (.head _))) (by constructor) (by constructor) ?_ (hsz := hsz)
    intro h7 F7' N7
    have e7 : slicePick rvs.toArray (some 1) none none = (rvs.drop 1).toArray := slicePick_from' rvs.toArray 1
    rw [e7] at N7
    k_steps
    rename News h₀ L _ (_ :: _ :: _) => N6
    refine hret _ _ _ _ ⟨_, mk, rvs.drop 1, cs.drop 1, kk, _, _, t', rfl, ⟨?_, ?_⟩, hsub, fun p hp => ⟨(hap p hp).1, ?_⟩, hcar.drop 1, fun c hc => hok c (List.mem_of_mem_drop hc), by rw [List.length_drop]; omega, rfl⟩ (by assumption) (news_d3 N6)
    · omega
    · omega
    · exact Nat.ne_of_lt (Nat.lt_succ_of_lt (hlt p (.tail _ (.tail _ hp))))
end

section
theorem codeS_top {prog : Program} {w : World} {s : Shared} {K : Frag} {p : Program} {loose : List Str} {mean : ExcName → Option Value} {mg mb : Str → Option Value} {R : Flow → Shared → Prop} {name qual : Str} {params : Arguments} {body : List Stmt} {scope : Scope} {dV kV doc pm cdv ct oc : Value} {an od : Option Addr} {osl : Array (Option Value)} {f : Addr} {args : Args} {binds : List (Str × Value)}
    (X₀ : K.In s.heap) (T : Top p loose mean mg mb s.heap)
    (ho : K.lookup f = some ⟨oc, od, .func (fnOf name qual params body scope dV kV doc pm an cdv ct), osl⟩) (hcd : codeIn K cdv qual = true)
    (hbind : BindsTo s (fnOf name qual params body scope dV kV doc pm an cdv ct) args binds) (hloc : ∀ y ∈ binds, scope.names.lookup y.1 = some .local)
    (h : ∀ L h₁, Fr s.heap L h₁ (fun y => binds.reverse.lookup y) →
      wpS (model prog w) (callerA.deeper (envOf qual scope L f cdv)) (execs body (envOf qual scope L f cdv))
        (fun fl s' => R (.ret (match fl with | .ret v => v | _ => .none)) s') { s with heap := h₁, toks := s.toks + binds.length })
    (hco : scope.isCoroutine = false) (hgen : scope.isGenerator = false) (hk : scope.kind = .function)
    (hcell : ∀ x ∈ scope.names, x.2 ≠ .cell) : codeS (model prog w) callerA (.call (.ref f) args) R s := by
  refine codeS_call_def (fd := fnX name qual params body scope [] dV kV doc pm an cdv ct) (body := body) (binds := binds) (by decide) (X₀ _ _ ho) rfl T.nolimit (codeRec_of X₀ hcd) rfl hbind hcell hloc (fun h₁ hns hk₁ => ?_) hco hgen hk
  exact h _ h₁ ⟨hns, hk₁, Nat.le_refl _⟩
theorem execsS_cut {M : Model} {A : Around} {s : Shared} {env : Env} {st : Stmt} {rest : List Stmt} {Q : Flow → Shared → Prop} (J : Shared → Prop)
    (h : wpAny M A (exec st env) (fun f s' => match f with | .next => Stop (J s') | _ => False) (fun _ _ => False) s) (h2 : ∀ s', J s' → wpS M A (execs rest env) Q s') : wpS M A (execs (st :: rest) env) Q s :=
  execsS_any (wpAny_mono h (fun f s' h' => by
    cases f with
    | next => exact h2 s' h'
    | brk => exact h'.elim
    | cont => exact h'.elim
    | ret v => exact h'.elim) fun _ _ h' => h')
theorem execsA_cut {M : Model} {A : Around} {E : Value → Shared → Prop} {s : Shared} {env : Env} {st : Stmt} {rest : List Stmt} {Q : Flow → Shared → Prop} (J : Shared → Prop)
    (h : wpAny M A (exec st env) (fun f s' => match f with | .next => Stop (J s') | _ => False) E s) (h2 : ∀ s', J s' → wpAny M A (execs rest env) Q E s') : wpAny M A (execs (st :: rest) env) Q E s := fun Γ p hΓ => by
  rw [execs_cons, Sem.wp_bind']
  refine Sem.wp_mono M Γ _ (fun f p' s' h' => ?_) (fun _ _ _ h' => h') _ _ (h Γ p hΓ)
  cases f with
  | next => exact h2 s' h' Γ p' hΓ
  | brk => exact h'.elim
  | cont => exact h'.elim
  | ret v => exact h'.elim
local macro_rules | `(tactic| walk_at "mine spec") => `(tactic| first
  | (with_reducible show Spec _ 314 _ _ _ _ _); exact spec_draw (by k_mem) (by assumption) (by assumption) (by assumption) (by omega) (by omega) (by omega) (by omega) (by first | assumption | k_all)
  | (with_reducible show Spec _ 322 _ _ _ _ _); exact spec_law_row (by k_mem) (by assumption) (by assumption) (by assumption) (by omega) (by omega) (by first | assumption | k_all)
  | (with_reducible show Spec _ 329 _ _ _ _ _); exact spec_law_number (by assumption)
  | (with_reducible show Spec _ 295 _ _ _ _ _); exact spec_read_row (pre := [255, 255, 255]) (post := [255]) (by with_reducible assumption) rfl (by assumption) (by omega) (by decide)
  | (with_reducible show Spec _ 295 _ _ _ _ _); exact spec_read_row (pre := []) (post := []) (by with_reducible assumption) rfl (by assumption) (by omega) (by decide))
theorem sub_two {α : Type} (a b : α) (r : List α) : ∀ p ∈ [a, b], p ∈ a :: b :: r := fun p hp => by
  simp only [List.mem_cons, List.not_mem_nil, or_false] at hp ⊢
  rcases hp with h | h <;> simp [h]
theorem news_d3' {h₀ h : Heap} {L : Addr} {a b c : Addr × Obj} {r : List (Addr × Obj)} (N : News h₀ L h (a :: b :: c :: r)) : News h₀ L h (b :: a :: r) := fun p hp => N p (by
  simp only [List.mem_cons] at hp ⊢
  rcases hp with h | h | h <;> simp [h])
theorem ovr_same {x : Str} {a b : Option Value} {m : Str → Option Value} : (fun y => if y = x then a else if y = x then b else m y) = fun y => if y = x then a else m y := by
  funext y
  split
  · rfl
  · rfl
theorem callWithS_T1 {prog : Program} {w : World} {A : Around} {s : Shared} {env : Env} {pos : Pos} {n : String} {e : PySem.Expr} {rest : List PySem.Expr} {Q : Value → Shared → Prop}
    (h : wpS (model prog w) A (spliced (backTo pos (starEach (e :: rest) env))) (fun vs s₁ => wpS (model prog w) A (call (.type n) vs) Q s₁) s)
    (he : starEach (e :: rest) env = (false, eval e env) :: starEach rest env := by rfl) (hplain : (backTo pos (starEach rest env)).any (·.1) = false := by rfl) :
    wpS (model prog w) A (callWith pos (.type n) [] (backTo pos (starEach (e :: rest) env)) []) Q s := by
  rw [he] at h ⊢
  exact callWithS_type (by show (false || (backTo pos (starEach rest env)).any (·.1)) = false; rw [hplain]; rfl) (evalArgsS (h := h))
local macro_rules | `(tactic| walk_at "mine specS") => `(tactic| ((with_reducible show SpecS _ 307 _ _ _ _ _); exact spec_write_row (by k_mem) (by assumption) (by assumption) (by omega)))
theorem notin_yes' {prog : Program} {w : World} {A : Around} {E : Value → Shared → Prop} {s : Shared} {h₀ : Heap} {L : Addr} {news : List (Addr × Obj)} {Q : Value → Shared → Prop} (N : News h₀ L s.heap news) {l : Addr} {vs : List Value} {kl : Nat} {cs : List Car} (hl : (l, lobj vs kl) ∈ news) (hv : CarsAre news vs cs) {a : Addr} {c : Car} {tw tv : Tok} {k : Nat} (ha : (a, carO c tw tv k) ∈ news) (hm : ¬ c ∈ cs) (hu : A.units + 2 < cLine)
    (h : Q (.bool true) s) : wpAny (model prog w) A (compareOp .NotIn (.ref a) (.ref l)) Q E s := notin_cars N hl hv ha hu (by simpa [hm] using h)
theorem notin_no' {prog : Program} {w : World} {A : Around} {E : Value → Shared → Prop} {s : Shared} {h₀ : Heap} {L : Addr} {news : List (Addr × Obj)} {Q : Value → Shared → Prop} (N : News h₀ L s.heap news) {l : Addr} {vs : List Value} {kl : Nat} {cs : List Car} (hl : (l, lobj vs kl) ∈ news) (hv : CarsAre news vs cs) {a : Addr} {c : Car} {tw tv : Tok} {k : Nat} (ha : (a, carO c tw tv k) ∈ news) (hm : c ∈ cs) (hu : A.units + 2 < cLine)
    (h : Q (.bool false) s) : wpAny (model prog w) A (compareOp .NotIn (.ref a) (.ref l)) Q E s := notin_cars N hl hv ha hu (by simpa [hm] using h)
local macro_rules | `(tactic| walk_at "compareOp NotIn ref ref") => `(tactic| (k_here; k_dflt (first
  | refine notin_yes' (by k_asm) (by k_mem) (by assumption) (by assumption) (by assumption) (by ktr_units) ?_
  | refine notin_no' (by k_asm) (by k_mem) (by assumption) (by assumption) (by assumption) (by ktr_units) ?_)))
theorem off_one {I d : Addr} {o o' : Obj} {r : List (Addr × Obj)} (h : ∀ p ∈ (d, o) :: r, p.1 ≠ I) : ∀ p ∈ (d, o') :: r, p.1 ≠ I := fun p hp => by
  rcases List.mem_cons.mp hp with rfl | hp
  · exact h (d, o) (.head _)
  exact h _ (.tail _ hp)
abbrev ovr4 (x1 x2 x3 x4 : Str) (p1 p2 p3 p4 : Option Value) (m : Str → Option Value) : Str → Option Value := fun y => if y = x1 then p1 else if y = x2 then p2 else if y = x3 then p3 else if y = x4 then p4 else m y
theorem ovr4_self (x1 x2 x3 x4 : Str) (m : Str → Option Value) : m = ovr4 x1 x2 x3 x4 (m x1) (m x2) (m x3) (m x4) m := by
  funext y
  unfold ovr4
  split
  · subst_vars; rfl
  · split
    · subst_vars; rfl
    · split
      · subst_vars; rfl
      · split
        · subst_vars; rfl
        · rfl
theorem ovr4_4 {x1 x2 x3 x4 : Str} {p1 p2 p3 p4 : Option Value} {v1 v2 v3 v4 : Value} {m : Str → Option Value} : (fun y => if y = x1 then some v1 else if y = x2 then some v2 else if y = x3 then some v3 else if y = x4 then some v4 else ovr4 x1 x2 x3 x4 p1 p2 p3 p4 m y) = ovr4 x1 x2 x3 x4 (some v1) (some v2) (some v3) (some v4) m := by
  funext y
  unfold ovr4
  by_cases e1 : y = x1
  · simp [e1]
  · by_cases e2 : y = x2
    · simp [e1, e2]
    · by_cases e3 : y = x3
      · simp [e1, e2, e3]
      · by_cases e4 : y = x4 <;> simp [e1, e2, e3, e4]
theorem law_off (cs : List Car) (hok : ∀ c ∈ cs, c.ok) {b : Array UInt8} (hb : KBw.bInts b = rowEnc cs) {i : Nat} {c : Car} (hi : cs[i]? = some c) (hcl : cs.length ≤ 7) :
    At2 b (2 + 2 * (i : Int)) (offOf cs c / 256) (offOf cs c % 256) ∧ At2 b (256 * (offOf cs c / 256) + offOf cs c % 256) 0 (if c.pt then 2 else 1) ∧ At2 b (256 * (offOf cs c / 256) + offOf cs c % 256 + 2) (c.v % 65536 / 256) (c.v % 65536 % 256) ∧ 256 * (offOf cs c / 256) + offOf cs c % 256 = offOf cs c := by
  have hul := uniq_len cs
  have hcm : c ∈ cs := List.mem_of_getElem? hi
  have he : 256 * (offOf cs c / 256) + offOf cs c % 256 = offOf cs c := by omega
  rw [he]
  obtain ⟨a, z, e, ha⟩ := rowEnc_at cs hok hcm
  have hl := rowEnc_len cs hok
  have hle : (a ++ c.enc ++ z).length = (rowEnc cs).length := by rw [e]
  simp only [List.length_append] at hle
  have h4 : At4 b (offOf cs c) c.enc := ⟨a, z, by rw [hb, e], ha, by rw [hl] at hle; omega⟩
  have hlt : i < cs.length := by
    rcases Nat.lt_or_ge i cs.length with h | h
    · exact h
    · rw [List.getElem?_eq_none h] at hi; cases hi
  refine ⟨⟨wordB cs.length ++ ((cs.take i).map (offOf cs)).flatMap wordB, ((cs.drop (i + 1)).map (offOf cs)).flatMap wordB ++ ((uniq cs).map Car.enc).flatten, ?_, ?_, ?_⟩, (At4.two h4).1, (At4.two h4).2, rfl⟩
  · have ec : cs = cs.take i ++ c :: cs.drop (i + 1) := by
      have := List.getElem?_eq_some_iff.mp hi
      obtain ⟨h1, h2⟩ := this
      rw [← h2]; simp
    have em : cs.map (offOf cs) = (cs.take i).map (offOf cs) ++ offOf cs c :: (cs.drop (i + 1)).map (offOf cs) := by
      conv => lhs; arg 2; rw [ec]
      rw [List.map_append, List.map_cons]
    rw [hb, rowEnc_eq cs hok, em]
    simp only [List.flatMap_append, List.flatMap_cons, List.append_assoc, wordB, List.cons_append, List.nil_append]
  · simp only [List.length_append, flatW_len, List.length_map, List.length_take]
    have : (wordB (cs.length : Int)).length = 2 := rfl
    omega
  · simp only [List.length_append, flatW_len, List.length_map, List.length_take, List.length_drop, encs_len]
    have : (wordB (cs.length : Int)).length = 2 := rfl
    omega
local macro_rules | `(tactic| walk_at "subscriptTail") => `(tactic| (k_here; (with_reducible show wpAny _ _ (subscriptTail _ _ (Value.ref _) (Value.int _ _)) _ _ _); k_dflt (refine item_litK (News.isList (by k_asm) (by k_mem)) (by omega) (by omega) (by assumption) ?_)))
local macro_rules | `(tactic| walk_at "call builtin:list.index") => `(tactic| (k_here; k_dflt (refine index_cars (by k_asm) (by k_mem) (by assumption) (by assumption) (by ktr_units) (by assumption) (by omega) ?_)))
local macro_rules | `(tactic| walk_at "compareOp NotEq ref ref") => `(tactic| (k_here; k_dflt (refine ne_rows (by k_asm) (by k_mem) (by k_mem) (by assumption) (by assumption) (by ktr_units) ?_)))
local macro_rules | `(tactic| walk_at "compareOp Eq ref ref") => `(tactic| (k_here; k_dflt (refine eq_rows (by k_asm) (by k_mem) (by k_mem) (by assumption) (by assumption) (by ktr_units) ?_)))
theorem add_gen {prog : Program} {w : World} {A : Around} {E : Value → Shared → Prop} {s : Shared} {b c : Array UInt8} {t u : Tok} {ks ls : List Int} {Q : Value → Shared → Prop} (hb : KBw.bInts b = ks) (hc : KBw.bInts c = ls) (hsz : ks.length + ls.length ≤ 16777216)
    (h : ∀ (b' : Array UInt8) t' k, KBw.bInts b' = ks ++ ls → Q (.bytes b' t') { s with toks := k }) : wpAny (model prog w) A (binaryOp .Add (.bytes b t) (.bytes c u)) Q E s :=
  KBa.add_K hb hc hsz fun t' k hk => h _ t' k hk
local macro_rules | `(tactic| walk_at "binaryOp Add bytes bytes") => `(tactic| (k_here; k_dflt (first
  | refine add_gen (ks := [255, 255, 255]) (by rfl) (by with_reducible assumption) (by simp only [List.length_append, List.length_cons, List.length_nil]; omega) ?_
  | refine add_gen (ls := [255]) (by with_reducible assumption) (by rfl) (by simp only [List.length_append, List.length_cons, List.length_nil]; omega) ?_); intro b9' t9' k9' hk9'))
theorem law_walk {w : World} {s : Shared} {mean : ExcName → Option Value} {mg mb : Str → Option Value} {l : Addr} {vs : List Value} {ns : List Int} {Q : Value → Shared → Prop} (X : (hd.heap_39 w.params).In s.heap) (T : Top theView (looseW theView [Str.ofString "ShapeError", Str.ofString "laid"]) mean mg mb s.heap)
    (hl : s.heap.IsList l vs.toArray) (hv : IntsAre vs ns) (hlen : ns.length ≤ 63)
    (hret : ∀ h' tk', (∀ b o, s.heap.get? b = some o → h'.get? b = some o) → Q (.bool true) { s with heap := h', toks := tk' }) :
    wpS (model PySem.Challenge.pw_pb0186_01 w) callerA (call (.ref 336) [.ref l]) Q s := by
  have B := below_caller s.heap
  walk_at "mine fill"
  refine wpS_call ?_
  k_dflt (refine' codeS_top ?k3 ?k5 ?k6 ?k7 ?k9 ?kB ?_ ?c2 ?c3 ?c4 ?c5; (case k3 => k_asm); (case k5 => k_asm); (case k6 => k_is); (case k7 => k_is); (case k9 => exact BindsTo.of_eq rfl); (case c5 => decide); (case kB => exact locs rfl); (case c2 => exact rfl); (case c3 => exact rfl); (case c4 => exact rfl); k_whole)
  intro L h₁ F
  have N := (News.nil : News s.heap L h₁ [])
  refine withM F fun m0 hm0 => ?_
  refine execsS_cut (fun s' => ∃ h' tk tp cl cvs cells k k2 t, s' = { s with heap := h', toks := tk } ∧ Fr s.heap L h' (fun y => if y = Str.ofString "tape" then some (.ref tp) else m0 y) ∧
    News s.heap L h' ((tp, W.listOf #[.ref cl, .int 0 t] k) :: (cl, lobj cvs k2) :: []) ∧ IntsAre cvs cells ∧ 0 < cells.length ∧ cells.length ≤ 40 ∧ cl ≠ tp) ?_ ?_
  · subst hm0
    k_steps
    · rename_i hff d1 ws hA iW cW lW l1t d2 cc hB l2 hpos tp hC l3 hD F6 N6
      exact Stop.go ⟨_, _, tp, d2, ws, ns.take 30, _, _, _, rfl, F6, cb_drop N6 (sub_two _ _ _), iW, hpos, by omega, Nat.ne_of_lt l3.1⟩
    · rename_i hff d1 ws hA iW cW lW l1t d2 cc hB l2 hpos l0 hC l3 tp hD l4 hE F6 N6
      exact Stop.go ⟨_, _, tp, l0, [.int 0 _], [0], _, _, _, rfl, F6, cb_drop N6 (sub_two _ _ _), .cons _ _ .nil, by decide, by decide, Nat.ne_of_lt l4.1⟩
  · rintro s' ⟨h1, tk1, tp, cl, cvs, cells, k, k2, t, rfl, F1, N1, hcv, hc0, hc1, hne⟩
    replace hne := neN hne
    have hrr : ∀ p ∈ [(cl, lobj cvs k2)], p.1 ≠ tp := fun p hp => by rw [List.mem_singleton.mp hp]; exact hne
    refine execsS_cut (fun s' => ∃ h' tk tp mk ro rvs cs kk k3 pos t', s' = { s with heap := h', toks := tk } ∧ Fr s.heap L h' (fun y => if y = Str.ofString "row" then some (.ref ro) else if y = Str.ofString "tape" then some (.ref tp) else m0 y) ∧
      News s.heap L h' ((tp, W.listOf #[.ref cl, .int pos t'] kk) :: (ro, lobj rvs k3) :: mk) ∧ (cl, lobj cvs k2) ∈ mk ∧ (0 ≤ pos ∧ pos ≤ 300) ∧ (∀ p ∈ (ro, lobj rvs k3) :: mk, p.1 ≠ tp) ∧ CarsAre mk rvs cs ∧ (∀ c ∈ cs, c.ok) ∧ cs.length ≤ 7) ?_ ?_
    · subst hm0
      k_steps
      rename Bnd _ 65536 => bn
      rename CarsAre _ _ _ => hcar
      rename ∀ p : Addr × Obj, p ∈ (_ : List (Addr × Obj)) → p ∈ (_ : List (Addr × Obj)) => hsub
      rename ∀ p : Addr × Obj, p ∈ (_ : List (Addr × Obj)) → p.1 ≠ tp ∧ p.1 ≠ _ => hap
      rename ∀ c : Car, c ∈ (_ : List Car) → c.ok => hok
      rename List.length _ ≤ 6 => hcl
      rename News s.heap L _ ((tp, _) :: (_, lobj _ _) :: _) => N9
      have m1 := hsub _ (.head _)
      have m2 := hsub _ (.tail _ (.head _))
      have m3 : (cl, lobj cvs k2) ∈ _ := hsub _ (.tail _ (.tail _ (.head _)))
      have hrl := hcar.len
      refine kmk_add_lit (by assumption) N9 (N9.isList (.tail _ (.tail _ m1))) (N9.isList (.tail _ (.head _))) (List.cons_append ..) ?_ (by have hsL : (sizeLine : Nat) = 2 ^ 24 := rfl; simp; omega)
      intro rn h7 F7 N7 l7
      k_steps
      rename Fr _ _ _ _ => F6
      rename News _ _ _ ((rn, _) :: _ :: _ :: _) => N6
      refine Stop.go ⟨_, _, tp, _, rn, _, (false, _) :: _, _, _, _, _, rfl, F6, news_d3' N6, m3, ⟨by omega, by omega⟩, fun p hp => ?_, .cons _ (false, _) _ _ _ m2 hcar, fun c hc => ?_, by simp only [List.length_cons]; omega⟩
      · rcases List.mem_cons.mp hp with rfl | hp
        · exact Nat.ne_of_gt (l7 _ (.head _))
        · exact (hap p hp).1
      · rcases List.mem_cons.mp hc with rfl | hc
        · exact ⟨by have := bn.1; simp only [Car.v]; omega, by have := bn.2; simp only [Car.v]; omega⟩
        · exact hok c hc
    · rintro s' ⟨h2, tk2, tp, mk, ro, rvs, cs, kk, k3, pos, t', rfl, F2, N2, hm, ⟨hp0, hp1⟩, hr3, hcar, hok, hcl⟩
      refine execsS_cut (fun s' => ∃ h' tk tp mk ro rvs cs k3, s' = { s with heap := h', toks := tk } ∧ Fr s.heap L h' (fun y => if y = Str.ofString "row" then some (.ref ro) else if y = Str.ofString "tape" then some (.ref tp) else m0 y) ∧
        News s.heap L h' ((ro, lobj rvs k3) :: mk) ∧ CarsAre mk rvs cs ∧ (∀ c ∈ cs, c.ok) ∧ cs.length ≤ 7) ?_ ?_
      · subst hm0
        k_steps
        · rename_i hff hA tkA wn wt wu wb wz l0 hB ll hC F5 N5
          dsimp only
          rw [ovr_same] at F5
          exact Stop.go ⟨_, _, tp, [], l0, [], [], 0, rfl, F5, cb_drop N5 (fun p hp => by rw [List.mem_singleton.mp hp]; exact .head _), .nil, by simp, by simp⟩
        · rename_i hff hA tkA F5 wn wt wu wb N5 wz
          dsimp only
          exact Stop.go ⟨_, _, tp, mk, ro, rvs, cs, k3, rfl, F5, cb_drop N5 (fun p hp => .tail _ hp), hcar, hok, hcl⟩
      · rintro s' ⟨h3, tk3, tp, mk, ro, rvs, cs, k3, rfl, F3, N3, hcar, hok, hcl⟩
        have hmm : (ro, lobj rvs k3) ∈ (ro, lobj rvs k3) :: mk := .head _
        have hcar' : CarsAre ((ro, lobj rvs k3) :: mk) rvs cs := hcar.mono fun p hp => .tail _ hp
        subst hm0
        refine execsS_cons (execS_Assign_Name (evalS_Call ?_))
        k_steps
        refine callWithS_T1 ?_
        refine splicedS_more (evalS_Call ?_)
        k_steps
        walk_at "mine callK"
        k_steps
        walk_at "mine useS"
        intro v4 n4 h4 tk4 hp F4 N4
        obtain ⟨t4, ⟨b, rfl, hb⟩, rfl⟩ := hp
        refine splicedS_none ?_
        refine wpS_of_any (call_bytes_bytes ?_)
        k_steps
        refine wpS_of_any ?_
        refine execsA_stop ?_
        k_steps
        refine Stop.go ?_
        rename Fr _ _ _ (fun y => if y = Str.ofString "unlike" then _ else _) => F5
        rename News _ _ _ (_ :: (ro, lobj rvs k3) :: mk) => N5
        rename _ < _ ∧ AllLt _ mk => lu
        rename_i ul hul hul2
        refine withM F5 fun m1 hm1 => ?_
        refine execsA_cut (fun s' => ∃ h' tk p1 us ku, s' = { s with heap := h', toks := tk } ∧ Fr s.heap L h' (ovr1 (Str.ofString "one") p1 m1) ∧ News s.heap L h' ((ul, lobj us ku) :: (ro, lobj rvs k3) :: mk) ∧ CarsAre mk us (uniq cs)) ?_ ?_
        · k_dflt (with_unfolding_all refine For_invVF F5 rfl rfl (stopIter ?_))
          k_steps
          refine Stop.go ?_
          have F7 := hm1 ▸ F5
          have N6 : News s.heap L _ ((ul, lobj [] 0) :: (ro, lobj rvs k3) :: mk) := N5
          refine forA_list (s := ⟨_, _, _, _, _⟩) (vs := rvs) (k := k3) (x := Str.ofString "one") (fun i m' nx => ∃ p1 us ku, m' = ovr1 (Str.ofString "one") p1 m1 ∧ nx = (ul, lobj us ku) :: (ro, lobj rvs k3) :: mk ∧ CarsAre mk us (uniq (cs.take i))) rfl F7 N6 (.tail _ (.head _)) ⟨_, [], 0, ovr1_self _ _, rfl, .nil⟩ ?_ ?_
          · intro i v m₁ nx I it h tk hvi hJ off hl2 hcls F' N'
            obtain ⟨p1, us, ku, rfl, rfl, hus⟩ := hJ
            obtain ⟨a1, c, tw, tv, k1, rfl, hma, hci⟩ := hcar.at hvi
            subst hm1
            have haB : (a1, carO c tw tv k1) ∈ (I, it) :: (ul, lobj us ku) :: (ro, lobj rvs k3) :: mk := .tail _ (.tail _ (.tail _ hma))
            have hvB : CarsAre ((I, it) :: (ul, lobj us ku) :: (ro, lobj rvs k3) :: mk) us (uniq (cs.take i)) := hus.mono fun p hp => .tail _ (.tail _ (.tail _ hp))
            have htake : cs.take (i + 1) = cs.take i ++ [c] := by rw [List.take_add_one, hci]; rfl
            have i1 := off _ (.head _)
            replace i1 := neN i1
            have i2 := lu.1
            k_lt2 i2
            have hmr : ∀ p ∈ mk, p.1 ≠ ul := fun p hp => Nat.ne_of_lt (allLt_mem lu.2 p hp)
            have hul := hus.len
            have hun := uniq_len (cs.take i)
            rw [List.length_take] at hun
            have hsz : us.toArray.size ≤ sizeLine := by have hsL : (sizeLine : Nat) = 2 ^ 24 := rfl; rw [List.size_toArray]; omega
            clear N5 F5 F7 N6
            by_cases hin : c ∈ uniq (cs.take i)
            · k_steps
              rename Fr _ _ _ _ => F8
              rename News _ _ _ ((I, it) :: _) => N8
              refine UnrEnd.intro F8 N8 _ (fun _ hp => hp) off ⟨.tail _ (.head _), _, us, ku, ovr1_1, rfl, ?_⟩
              rw [htake, uniq_snoc, ustep, if_pos hin]
              exact hus
            · k_steps
              rename Fr _ _ _ _ => F8
              rename News _ _ _ ((I, it) :: _) => N8
              rw [lobj_push] at N8
              refine UnrEnd.intro F8 N8 _ (fun _ hp => hp) (off_one off) ⟨.tail _ (.head _), _, us ++ [.ref a1], ku + 1, ovr1_1, rfl, ?_⟩
              rw [htake, uniq_snoc, ustep, if_neg hin]
              exact hus.snoc hma
          · intro m₁ nx h tk hJ F' N'
            obtain ⟨p1, us, ku, rfl, rfl, hus⟩ := hJ
            dsimp only
            rw [hcar.len, List.take_length] at hus
            exact Stop.go ⟨_, _, p1, us, ku, rfl, F', N', hus⟩
        · rintro s' ⟨h5, tk5, p1, us, ku, rfl, F6, N6, hus⟩
          subst hm1
          have hrl := hcar.len
          have hul := hus.len
          have hun := uniq_len cs
          have hbs : ((b.size : Nat) : Int) = 2 + 2 * (cs.length : Int) + 4 * ((uniq cs).length : Int) := by
            have e := rowEnc_len cs hok
            rw [← hb, bInts_len] at e
            omega
          have hr1 : ((rvs.toArray.size : Nat) : Int) = (cs.length : Int) := by simp [hrl]
          have hu1 : ((us.toArray.size : Nat) : Int) = ((uniq cs).length : Int) := by simp [hul]
          have hf1 : (rvs.toArray.size : Int) < 2 ^ 63 := by omega
          have hf2 : (us.toArray.size : Int) < 2 ^ 63 := by omega
          have hA0 : At2 b 0 (cs.length / 256) (cs.length % 256) := ⟨[], (cs.map (offOf cs)).flatMap wordB ++ ((uniq cs).map Car.enc).flatten, by rw [hb, rowEnc_eq cs hok]; simp [wordB], rfl, by
            simp only [List.length_append, flatW_len, encs_len, List.length_map, List.length_nil]; omega⟩
          refine execsA_stop ?_
          k_steps
          · exfalso; omega
          · exfalso; omega
          refine Stop.go ?_
          refine execsA_stop ?_
          rename Fr _ _ _ _ => F6
          k_dflt (with_unfolding_all refine For_invVF F6 rfl rfl (stopIter ?_))
          k_steps
          refine Stop.go ?_
          rename IsRange _ _ _ _ _ _ _ _ => hR
          rename Fr _ _ _ _ => F8
          rename News _ _ _ _ => N8
          refine withM F8 fun m2 hm2 => ?_
          have F9 := hm2 ▸ F8
          refine forA_range (s := ⟨_, _, _, _, _⟩) (n := cs.length) (x := Str.ofString "k") (fun i m' nx => ∃ p1 p2 p3 p4, m' = ovr4 (Str.ofString "worth") (Str.ofString "word") (Str.ofString "offset") (Str.ofString "k") p1 p2 p3 p4 m2 ∧ nx = (ul, lobj us ku) :: (ro, lobj rvs k3) :: mk) rfl F9 N8 hR hr1 (by omega) ⟨_, _, _, _, ovr4_self .., rfl⟩ ?_ ?_
          · intro i m₁ nx I it h tk ti hi hJ off F' N'
            obtain ⟨p1, p2, p3, p4, rfl, rfl⟩ := hJ
            subst hm2
            have hci : cs[i]? = some cs[i] := List.getElem?_eq_getElem hi
            have hcm : cs[i] ∈ cs := List.getElem_mem hi
            have hri : i < rvs.length := by omega
            have hrv : rvs[i]? = some rvs[i] := List.getElem?_eq_getElem hri
            obtain ⟨a1, c, tw, tv, k1, hva, hma, hc2⟩ := hcar.at hrv
            rw [hva] at hrv
            have hcm : c ∈ cs := List.mem_of_getElem? hc2
            have hoff := law_off cs hok hb hc2 hcl
            have hoc := hok c hcm
            have hin := (uniq_mem cs c).mpr hcm
            have hix := ix_lt hin
            have hrv2 : rvs[((i : Nat) : Int).toNat]? = some (.ref a1) := by rw [Int.toNat_natCast]; exact hrv
            have haB : (a1, carO c tw tv k1) ∈ (I, it) :: (ul, lobj us ku) :: (ro, lobj rvs k3) :: mk := .tail _ (.tail _ (.tail _ hma))
            have hvB : CarsAre ((I, it) :: (ul, lobj us ku) :: (ro, lobj rvs k3) :: mk) us (uniq cs) := hus.mono fun p hp => .tail _ (.tail _ (.tail _ hp))
            obtain ⟨hA1, hA2, hA3, hoe⟩ := hoff
            have hod : offOf cs c = 2 + 2 * (cs.length : Int) + 4 * (ix (uniq cs) c : Int) := rfl
            clear N8 F8 F9 F6 N6 hR
            obtain ⟨pt, v⟩ := c
            have hfm : v.fmod 65536 = v % 65536 := Int.fmod_eq_emod_of_nonneg _ (by decide)
            cases pt with
            | true =>
              have hA4 : At2 b (256 * (offOf cs (true, v) / 256) + offOf cs (true, v) % 256) 0 2 := hA2
              have hA5 : At2 b (256 * (offOf cs (true, v) / 256) + offOf cs (true, v) % 256 + 2) (v % 65536 / 256) (v % 65536 % 256) := hA3
              clear hA2 hA3
              have haL : (a1, tup2 (.str (Str.ofString "point") tw) (.int v tv) k1) ∈ (I, it) :: (ul, lobj us ku) :: (ro, lobj rvs k3) :: mk := haB
              k_steps
              · exfalso; omega
              · exfalso; omega
              rename Fr _ _ _ _ => F8
              rename News _ _ _ ((I, it) :: _) => N8
              exact UnrEnd.intro F8 N8 _ (fun _ hp => hp) off ⟨_, _, _, _, ovr4_4, rfl⟩
            | false =>
              have hA4 : At2 b (256 * (offOf cs (false, v) / 256) + offOf cs (false, v) % 256) 0 1 := hA2
              have hA5 : At2 b (256 * (offOf cs (false, v) / 256) + offOf cs (false, v) % 256 + 2) (v % 65536 / 256) (v % 65536 % 256) := hA3
              clear hA2 hA3
              have haL : (a1, tup2 (.str (Str.ofString "at") tw) (.int v tv) k1) ∈ (I, it) :: (ul, lobj us ku) :: (ro, lobj rvs k3) :: mk := haB
              k_steps
              · exfalso; omega
              · exfalso; omega
              rename Fr _ _ _ _ => F8
              rename News _ _ _ ((I, it) :: _) => N8
              exact UnrEnd.intro F8 N8 _ (fun _ hp => hp) off ⟨_, _, _, _, ovr4_4, rfl⟩
          · intro m₁ nx h tk hJ F' N'
            obtain ⟨p1, p2, p3, p4, rfl, rfl⟩ := hJ
            subst hm2
            clear N8 F8 F9 F6 N6 hR
            refine Stop.go ?_
            have hbA : KBw.bInts b = [] ++ rowEnc cs ++ [] := by rw [hb]; simp
            refine execsA_stop ?_
            k_steps
            rename CarsAre _ _ _ => hc9
            rename (_, tupN _ _) ∈ _ => hm9
            rename ∀ p : Addr × Obj, p ∈ (_ : List (Addr × Obj)) → p ∈ (_ : List (Addr × Obj)) => hs9
            rename News s.heap L _ _ => N9
            have hzr : rvs.toArray.size ≤ sizeLine := by have hsL : (sizeLine : Nat) = 2 ^ 24 := rfl; rw [List.size_toArray]; omega
            refine tuple_K (by assumption) N9 (hs9 _ (.tail _ (.head _))) hzr ?_
            intro a9 h9 F9 N9 l9
            have hx1 := hc9.mono fun p hp => List.mem_cons_of_mem (a9, tupN rvs 0) hp
            have hx2 := hcar.mono fun p hp => List.mem_cons_of_mem (a9, tupN rvs 0) (hs9 p (.tail _ (.tail _ hp)))
            k_steps
            refine Stop.go ?_
            have m1 := hs9 _ (.tail _ (.head _))
            have m2 : (ro, lobj rvs k3) ∈ (a9, tupN rvs 0) :: _ := .tail _ m1
            have hx3 := hcar.mono fun p hp => hs9 p (.tail _ (.tail _ hp))
            clear hx1 hc9 hm9 hbA F' N' F5 N5
            try clear F' N'
            have hsz2 : (rowEnc cs).length ≤ 1000 := by rw [rowEnc_len cs hok]; omega
            k_steps
            rename ∀ p : Addr × Obj, p ∈ (_ : List (Addr × Obj)) → p ∈ (_ : List (Addr × Obj)) => hs10
            rename CarsAre _ _ _ => hc10
            rename (_, tupN _ _) ∈ _ => hm10
            rename News s.heap L _ _ => N10
            refine tuple_K (by assumption) N10 (hs10 _ (.tail _ m1)) hzr ?_
            intro a11 h11 F11 N11 l11
            have hy1 := hc10.mono fun p hp => List.mem_cons_of_mem (a11, tupN rvs 0) hp
            have hy2 := hcar.mono fun p hp => List.mem_cons_of_mem (a11, tupN rvs 0) (hs10 p (.tail _ (hs9 p (.tail _ (.tail _ hp)))))
            clear hx2 hx3 hc10 m1 m2
            k_steps
            exact hret _ _ F11.keep
end

section
theorem law_all : PySem.Challenge.rw_pb0186_01.Holds := by
  refine hd ?_
  intro w s₀ s₁ mg mb G Y fa o pm cd doc dV kV ho hod hcd hD hmg hg args vals as hpre hlay hrd hwl hlo
  have KX := kIn_of Y
  refine Ground.open G ?_
  intro T B D TE TW
  wrow_args hpre hlay hrd hwl hlo
  rename IntsAre _ _ => hI9
  rename Heap.IsList _ _ _ => hL9
  rename ¬ _ => hc9
  have e1 := mg_of (n := Str.ofString "law") (v := .ref 336) KX (Top.g T) (by kernel_rfl)
  have e2 : mg (Str.ofString "law") = some (.ref fa) := hmg
  rw [e1] at e2
  obtain rfl : 336 = fa := by injection e2 with e2; injection e2
  refine law_walk KX T hL9 hI9 (by omega) ?_
  intro h' tk' hk
  refine ⟨.inl ⟨.bool true, .bool true, [], rfl, raisesW_false (by wrow_none_raised), .bool _, postW_of (by wrow_shape) (by wtm_val) (by w_fin), unshared_nil⟩, .of_keep hk, rfl, .of_eq hg⟩
end
end Mine

set_option maxHeartbeats 8000000 in
theorem PySem.Challenge.cw_pb0186_01_holds : PySem.Challenge.rw_pb0186_01.Holds := by
  exact Mine.law_all
